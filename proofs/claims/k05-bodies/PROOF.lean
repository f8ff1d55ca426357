import PyProof.Rows.All
import Wide.All
import OpenK.AllK
import Wide.FinOn
import HandS.ForMost
import HandS.StrMore
import HandS.ForExc
import HandS.Deep
import HandS.TupAny
import HandS.Flow
import HandS.TupLe
import HandS.IsInst
import HandS.CallSlots
import HandS.WordsExc
import HandS.HeadEnd
import HandS.RaiseMore
import HandS.Conv
import HandS.TupLen
import HandS.More
import HandS.ReCall
import HandS.Walk
import HandS.Small
import KE.GoesZip
import KE.GoesMore
import HandS.Style
import HandS.HeadHook2
import HandS.Head2
import HandS.Text
import KE.IntTextLaws
import KE.KIntText
import PySem.Challenge.RW_modcore_k05_bodies
set_option Elab.async false
set_option linter.all false
set_option maxRecDepth 100000
set_option maxHeartbeats 0
section
/-! V0: a small language of expressions and statements, and its evaluator. -/
namespace Vm
open PySem

/-- values: pure data; a cell of the store; a tuple or a list that holds a value that is not pure; an exception -/
inductive Val where
  | p (d : PyData)
  | r (k : Nat)
  | t (xs : List Val)
  | l (xs : List Val)
  | x (c : Nat) (fs : List (Str × PyData))
  deriving Inhabited

inductive Cell where
  | pl (ds : List PyData)
  | ml (vs : List Val)
  | pd (kvs : List (PyData × PyData))
  | md (kvs : List (PyData × Val))
  | ob (c : Nat) (fs : List (Str × Val))
  | fz (d : PyData)
  | lk (c : Cell)
  deriving Inhabited

abbrev Store := List Cell
abbrev Env := List (Option Val)

inductive R (α : Type) where
  | ok (a : α) (st : Store)
  | er (c : Nat) (fs : List (Str × PyData)) (st : Store)
  | no
def R.bind {α β : Type} (r : R α) (f : α → Store → R β) : R β :=
  match r with
  | .ok a st => f a st
  | .er c fs st => .er c fs st
  | .no => .no
@[simp] theorem R.bind_ok {α β : Type} (a : α) (st : Store) (f : α → Store → R β) : (R.ok a st).bind f = f a st := rfl
@[simp] theorem R.bind_er {α β : Type} (c : Nat) (fs : List (Str × PyData)) (st : Store) (f : α → Store → R β) : (R.er c fs st : R α).bind f = .er c fs st := rfl
@[simp] theorem R.bind_no {α β : Type} (f : α → Store → R β) : (R.no : R α).bind f = .no := rfl
def R.of {α : Type} (o : Option α) (st : Store) : R α :=
  match o with
  | some a => .ok a st
  | none => .no
@[simp] theorem R.of_some {α : Type} (a : α) (st : Store) : R.of (some a) st = .ok a st := rfl
@[simp] theorem R.of_none {α : Type} (st : Store) : (R.of none st : R α) = .no := rfl

/-! ### values -/
def unP : Val → Option PyData
  | .p d => some d
  | _ => none
def unPs : List Val → Option (List PyData)
  | [] => some []
  | v :: vs =>
    match unP v with
    | some d =>
      match unPs vs with
      | some ds => some (d :: ds)
      | none => none
    | none => none
@[simp] theorem unPs_map : ∀ ds : List PyData, unPs (ds.map Val.p) = some ds
  | [] => rfl
  | d :: ds => by simp [unPs, unP, unPs_map ds]
def mkT (vs : List Val) : Val :=
  match unPs vs with
  | some ds => .p (.tuple ds)
  | none => .t vs
def mkL (vs : List Val) : Val :=
  match unPs vs with
  | some ds => .p (.list ds)
  | none => .l vs
@[simp] theorem mkT_map (ds : List PyData) : mkT (ds.map Val.p) = .p (.tuple ds) := by simp [mkT]
@[simp] theorem mkL_map (ds : List PyData) : mkL (ds.map Val.p) = .p (.list ds) := by simp [mkL]
/-- a pure cell read as data -/
def seeC : Cell → Option PyData
  | .pl ds => some (.list ds)
  | .pd kvs => some (.dict kvs)
  | .fz d => some d
  | .lk c => seeC c
  | _ => none
def see (st : Store) : Val → Val
  | .r k =>
    match st[k]? with
    | some c =>
      match seeC c with
      | some d => .p d
      | none => .r k
    | none => .r k
  | v => v
@[simp] theorem see_p (st : Store) (d : PyData) : see st (.p d) = .p d := rfl
def charsOf (s : Str) : List PyData := s.cps.toList.map fun c => .str ⟨#[c]⟩
def itemsD : PyData → Option (List PyData)
  | .list ds => some ds
  | .tuple ds => some ds
  | .str s => some (charsOf s)
  | .dict kvs => some (kvs.map (·.1))
  | _ => none
def itemsC : Cell → Option (List Val)
  | .pl ds => some (ds.map .p)
  | .ml vs => some vs
  | .pd kvs => some (kvs.map fun q => .p q.1)
  | .md kvs => some (kvs.map fun q => .p q.1)
  | .fz d => (itemsD d).map (·.map .p)
  | .lk c => itemsC c
  | .ob _ _ => none
def itemsV (st : Store) : Val → Option (List Val)
  | .p d => (itemsD d).map (·.map .p)
  | .t vs => some vs
  | .l vs => some vs
  | .r k =>
    match st[k]? with
    | some c => itemsC c
    | none => none
  | _ => none

/-! ### operators on data -/
def SZ : Nat := 16777216
inductive BinO where
  | add | sub | mul | fdiv | mod | pow
  deriving DecidableEq
inductive CmpO where
  | eq | ne | lt | le | gt | ge | is | isNot | isin | notin
  deriving DecidableEq
def binD : BinO → PyData → PyData → Option PyData
  | .add, .int i, .int j => some (.int (i + j))
  | .add, .str a, .str b => if a.length + b.length ≤ SZ then some (.str (a ++ b)) else none
  | .add, .list a, .list b => if a.length + b.length ≤ SZ then some (.list (a ++ b)) else none
  | .add, .tuple a, .tuple b => if a.length + b.length ≤ SZ then some (.tuple (a ++ b)) else none
  | .sub, .int i, .int j => some (.int (i - j))
  | .mul, .int i, .int j => if (-(2 ^ 64) < i ∧ i < 2 ^ 64) ∨ (-(2 ^ 64) < j ∧ j < 2 ^ 64) then some (.int (i * j)) else none
  | .mul, .list a, .int k => if -(2 ^ 63) ≤ k ∧ k < 2 ^ 63 ∧ a.length * k.toNat ≤ SZ then some (.list (List.replicate k.toNat a).flatten) else none
  | .mul, .str a, .int k => if 0 ≤ k ∧ k < 2 ^ 38 ∧ a.length * k.toNat ≤ SZ ∧ a.length < 2 ^ 24 then some (.str ⟨(List.replicate k.toNat a.cps.toList).flatten.toArray⟩) else none
  | .fdiv, .int i, .int j => if 0 < j ∧ j < 1073741824 then some (.int (i / j)) else none
  | .mod, .int i, .int j => if 0 < j then some (.int (i % j)) else none
  | .pow, .int i, .int j => if 0 ≤ j ∧ j ≤ 1000000 ∧ i.natAbs < 2 ^ 64 then some (.int (i ^ j.toNat)) else none
  | _, _, _ => none
def asL : Val → Option (List Val)
  | .p (.list ds) => some (ds.map .p)
  | .l vs => some vs
  | _ => none
def seqL (st : Store) (a : Val) : Option (List Val) :=
  match see st a with
  | .p (.list ds) => some (ds.map .p)
  | .l vs => some vs
  | .r k =>
    match st[k]? with
    | some (.ml vs) => some vs
    | _ => none
  | _ => none
def binV (o : BinO) (a b : Val) : Option Val :=
  match a, b with
  | .p x, .p y => (binD o x y).map .p
  | a, b =>
    match o, asL a, asL b with
    | .add, some xs, some ys => if xs.length + ys.length ≤ SZ then some (mkL (xs ++ ys)) else none
    | _, _, _ => none
def ltS (a b : Str) : Bool := decide (a.cps.toList < b.cps.toList)
/-- plain values that == tells apart by their looks -/
def flat2 : PyData → PyData → Bool
  | .none, .none => true
  | .none, .int _ => true
  | .int _, .none => true
  | .none, .bool _ => true
  | .bool _, .none => true
  | .none, .str _ => true
  | .str _, .none => true
  | .int _, .int _ => true
  | .bool _, .bool _ => true
  | .str _, .str _ => true
  | .int _, .str _ => true
  | .str _, .int _ => true
  | .bool _, .str _ => true
  | .str _, .bool _ => true
  | _, _ => false
def flatD : PyData → Bool
  | .none => true
  | .bool _ => true
  | .int _ => true
  | .str _ => true
  | _ => false
def eqD (x y : PyData) : Option Bool := if flat2 x y = true then some (PyData.eqv x y) else if SeqAt.shaped x = true ∧ SeqAt.shaped y = true then some (PyData.eqv x y) else
  match x, y with
  | .tuple [], .tuple (_ :: _) => some false
  | .tuple (_ :: _), .tuple [] => some false
  | .list [], .list (_ :: _) => some false
  | .list (_ :: _), .list [] => some false
  | _, _ => none
def isKey1 : PyData → Bool
  | .int _ => true
  | .str _ => true
  | _ => false
/-- keys of dicts: ints and texts, or tuples of these -/
def keyed : PyData → Bool
  | .tuple ds => ds.all isKey1
  | d => isKey1 d
def kindOK {α : Type} (kvs : List (PyData × α)) (x : PyData) : Bool :=
  match kvs with
  | [] => true
  | q :: _ => isKey1 q.1 == isKey1 x
def inD (x : PyData) : PyData → Option Bool
  | .str b => match x with
    | .str a => some (!(Builtin.Str.occurrences b a 0 b.length 1).isEmpty)
    | _ => none
  | .list ds => if (flatD x = true ∧ ds.all flatD = true) ∨ (SeqAt.shaped x = true ∧ SeqAt.shaped (.list ds) = true) then some (ds.any fun z => PyData.eqv z x) else none
  | .tuple ds => if flatD x = true ∧ ds.all flatD = true then some (ds.any fun z => PyData.eqv z x) else none
  | .dict kvs => if keyed x = true ∧ kindOK kvs x = true then some (kvs.any fun q => PyData.eqv q.1 x) else none
  | _ => none
def cmpD (o : CmpO) (x y : PyData) : Option Bool :=
  match o with
  | .eq => eqD x y
  | .ne => (eqD x y).map (!·)
  | .lt => match x, y with
    | .int i, .int j => some (decide (i < j))
    | .str a, .str b => some (ltS a b)
    | _, _ => none
  | .le => match x, y with
    | .int i, .int j => some (decide (i ≤ j))
    | .str a, .str b => some (!ltS b a)
    | _, _ => none
  | .gt => match x, y with
    | .int i, .int j => some (decide (j < i))
    | .str a, .str b => some (ltS b a)
    | _, _ => none
  | .ge => match x, y with
    | .int i, .int j => some (decide (j ≤ i))
    | .str a, .str b => some (!ltS a b)
    | _, _ => none
  | .is => match y with
    | .none => some (match x with | .none => true | _ => false)
    | _ => none
  | .isNot => match y with
    | .none => some (match x with | .none => false | _ => true)
    | _ => none
  | .isin => inD x y
  | .notin => (inD x y).map (!·)
def cmpV (o : CmpO) (a b : Val) : Option Bool :=
  match a, b with
  | .p x, .p y => cmpD o x y
  | _, .p .none => match o with
    | .is => some false
    | .isNot => some true
    | _ => none
  | _, _ => none
def truthD : PyData → Bool
  | .none => false
  | .bool b => b
  | .int i => i != 0
  | .str s => s.length != 0
  | .list ds => !ds.isEmpty
  | .tuple ds => !ds.isEmpty
  | .dict kvs => !kvs.isEmpty
def truthV : Val → Option Bool
  | .p (.str s) => if s.length ≤ SZ then some (s.length != 0) else none
  | .p (.dict _) => none
  | .p d => some (truthD d)
  | .t vs => some (!vs.isEmpty)
  | .l vs => some (!vs.isEmpty)
  | _ => none
def atL {α : Type} (xs : List α) (i : Int) : Option α := L2.atI xs i
def keyEq (a b : PyData) : Bool := PyData.eqv a b
def getK {α : Type} (kvs : List (PyData × α)) (k : PyData) : Option α := (kvs.find? fun q => keyEq q.1 k).map (·.2)
def putK {α : Type} (kvs : List (PyData × α)) (k : PyData) (v : α) : List (PyData × α) :=
  if (kvs.any fun q => keyEq q.1 k) = true then kvs.map (fun q => if keyEq q.1 k = true then (q.1, v) else q) else kvs ++ [(k, v)]
def dropK {α : Type} (kvs : List (PyData × α)) (k : PyData) : List (PyData × α) := kvs.filter fun q => !keyEq q.1 k
def idxD (x i : PyData) : Option PyData :=
  match x, i with
  | .list ds, .int i => atL ds i
  | .tuple ds, .int i => atL ds i
  | .str s, .int i => if s.length ≤ SZ then (atL s.cps.toList i).map fun c => .str ⟨#[c]⟩ else none
  | .dict kvs, k => if keyed k = true ∧ kindOK kvs k = true then getK kvs k else none
  | _, _ => none
def idxV (st : Store) (a i : Val) : Option Val :=
  match see st a, i with
  | .p x, .p i => (idxD x i).map .p
  | .t vs, .p (.int i) => atL vs i
  | .l vs, .p (.int i) => atL vs i
  | .r k, .p i =>
    match st[k]? with
    | some (.ml vs) => match i with
      | .int i => atL vs i
      | _ => none
    | _ => none
  | _, _ => none
def cutL {α : Type} (xs : List α) (lo hi : Option Int) : List α := (xs.drop (HT.sIx xs.length 0 lo)).take (HT.sIx xs.length xs.length hi - HT.sIx xs.length 0 lo)
def slcD (lo hi : Option Int) : PyData → Option PyData
  | .list ds => some (.list (cutL ds lo hi))
  | .tuple ds => some (.tuple (cutL ds lo hi))
  | .str s => if s.length ≤ SZ then some (.str (L2.cutS s lo hi)) else none
  | _ => none
def slcV (st : Store) (lo hi : Option Int) (a : Val) : Option Val :=
  match see st a with
  | .p d => (slcD lo hi d).map .p
  | .t vs => some (mkT (cutL vs lo hi))
  | .l vs => some (mkL (cutL vs lo hi))
  | _ => none

/-! ### built-ins -/
inductive Ty where
  | str | int | bool | list | tuple | dict | verr
  | own (c : Nat)
  deriving DecidableEq
inductive Bi where
  | len | abs | all | any | int | str | list | tuple | min2 | max2 | sorted | repr | sum | dict | dict0
  deriving DecidableEq
inductive Mt where
  | split | join | lstrip | partition | rpartition | startswith
  | append | extend | pop | popAt | clear | insert
  | get | update | dpop | items | values
  deriving DecidableEq
def tyD : PyData → Ty → Option Bool
  | .str _, .str => some true
  | .int _, .int => some true
  | .bool _, .int => some true
  | .bool _, .bool => some true
  | .list _, .list => some true
  | .tuple _, .tuple => some true
  | .dict _, .dict => some true
  | _, .own _ => some false
  | _, _ => some false
def boolsOf : List PyData → Option (List Bool)
  | [] => some []
  | .bool b :: r => (boolsOf r).map (b :: ·)
  | _ :: _ => none
def intsOf : List PyData → Option (List Int)
  | [] => some []
  | .int b :: r => (intsOf r).map (b :: ·)
  | _ :: _ => none
def strsOf : List PyData → Option (List Str)
  | [] => some []
  | .str b :: r => (strsOf r).map (b :: ·)
  | _ :: _ => none
def insS (x : Str) : List Str → List Str
  | [] => [x]
  | y :: r => if ltS y x then y :: insS x r else x :: y :: r
def sortS (xs : List Str) : List Str := xs.foldr insS []
def biD (b : Bi) (d : PyData) : Option PyData :=
  match b, d with
  | .len, .str s => if s.length ≤ SZ then some (.int s.length) else none
  | .len, .list ds => some (.int ds.length)
  | .len, .tuple ds => some (.int ds.length)
  | .len, .dict kvs => some (.int kvs.length)
  | .abs, .int i => some (.int (if i < 0 then -i else i))
  | .all, .list ds => (boolsOf ds).map fun bs => .bool (bs.all id)
  | .any, .list ds => (boolsOf ds).map fun bs => .bool (bs.any id)
  | .int, .int i => some (.int i)
  | .int, .bool b => some (.int (if b then 1 else 0))
  | .int, .str s => if s.length ≤ 640 then (PySem.intText? s).map .int else none
  | .str, .int i => if i.natAbs.log2 < 1920 then some (.str (toString i)) else none
  | .str, .str s => some (.str s)
  | .list, .list ds => some (.list ds)
  | .list, .tuple ds => some (.list ds)
  | .list, .dict kvs => if (kvs.all fun q => isKey1 q.1) = true then some (.list (kvs.map (·.1))) else none
  | .tuple, .list ds => some (.tuple ds)
  | .tuple, .tuple ds => some (.tuple ds)
  | .sorted, .list ds => if ds.length < 64 then (strsOf ds).map fun ss => .list ((sortS ss).map .str) else none
  | .sorted, .dict kvs => if kvs.length < 64 then (strsOf (kvs.map (·.1))).map fun ss => .list ((sortS ss).map .str) else none
  | .repr, d => if d.shown.length ≤ SZ ∧ d.showable = true ∧ d.depth ≤ 64 ∧ d.hasDict = false then some (.str d.shown) else none
  | .sum, .list ds => (intsOf ds).map fun ns => .int ns.sum
  | _, _ => none
def seeM (st : Store) (v : Val) : Val :=
  match see st v with
  | .r k =>
    match st[k]? with
    | some (.ml vs) => .l vs
    | _ => .r k
  | w => w
def biV (b : Bi) (vs : List Val) (st : Store) : Option Val :=
  match vs with
  | [v] =>
    match seeM st v with
    | .p d => (biD b d).map .p
    | .l xs => match b with
      | .len => some (.p (.int xs.length))
      | .list => some (.l xs)
      | .tuple => some (.t xs)
      | _ => none
    | .t xs => match b with
      | .len => some (.p (.int xs.length))
      | .list => some (.l xs)
      | .tuple => some (.t xs)
      | _ => none
    | _ => none
  | [.p (.int i), .p (.int j)] =>
    match b with
    | .min2 => some (.p (.int (if j < i then j else i)))
    | .max2 => some (.p (.int (if j > i then j else i)))
    | _ => none
  | _ => none
def joinSz (ys : List Str) (a : Str) : Bool := decide ((ys.map (·.length)).sum + ys.length * a.length ≤ SZ)
/-- methods of texts -/
def mtS (m : Mt) (s : Str) (vs : List PyData) : Option PyData :=
  match m, vs with
  | .split, [.str b] => if (b.length == 0) = false ∧ s.length + 2 ≤ SZ then some (.list ((Txt.split s b).map .str)) else none
  | .join, [.list ds] => match strsOf ds with
    | some ys => if joinSz ys s = true then some (.str (Txt.join s ys)) else none
    | none => none
  | .join, [.tuple ds] => match strsOf ds with
    | some ys => if joinSz ys s = true then some (.str (Txt.join s ys)) else none
    | none => none
  | .lstrip, [.str b] => if s.length ≤ SZ then some (.str (Txt.lstripChars s b)) else none
  | .partition, [.str b] => if (b.length == 0) = false ∧ s.length ≤ SZ then some (.tuple [.str (Txt.partition s b).1, .str (Txt.partition s b).2.1, .str (Txt.partition s b).2.2]) else none
  | .startswith, [.str b] => some (.bool (Txt.startswith s b))
  | _, _ => none
def mtP (m : Mt) (d : PyData) (vs : List PyData) : Option PyData :=
  match d with
  | .str s => mtS m s vs
  | .dict kvs => match m, vs with
    | .get, [k] => if keyed k = true ∧ kindOK kvs k = true then some ((getK kvs k).getD .none) else none
    | .get, [k, x] => if keyed k = true ∧ kindOK kvs k = true then some ((getK kvs k).getD x) else none
    | _, _ => none
  | _ => none
/-- methods that change a cell; ws, the arguments as they are read -/
def mtC (m : Mt) (c : Cell) (vs ws : List Val) : Option (Val × Cell) :=
  match m with
  | .append => match c, vs with
    | .pl ds, [.p d] => if ds.length < SZ then some (.p .none, .pl (ds ++ [d])) else none
    | .ml xs, [v] => if xs.length < SZ then some (.p .none, .ml (xs ++ [v])) else none
    | _, _ => none
  | .extend => match c, ws with
    | .pl ds, [.p (.list es)] => if ds.length + es.length ≤ SZ then some (.p .none, .pl (ds ++ es)) else none
    | _, _ => none
  | .pop => match c, vs with
    | .pl ds, [] => (ds[ds.length - 1]?).map fun d => (.p d, .pl ds.dropLast)
    | .ml xs, [] => (xs[xs.length - 1]?).map fun d => (d, .ml xs.dropLast)
    | _, _ => none
  | .update => match c, vs with
    | .pd kvs, [.p (.dict es)] => if kvs.length + es.length ≤ SZ ∧ (kvs.any fun q => isKey1 q.1) = true ∧ (es.any fun q => isKey1 q.1) = true then some (.p .none, .pd (es.foldl (fun a q => putK a q.1 q.2) kvs)) else none
    | _, _ => none
  | _ => none
def mtV (m : Mt) (a : Val) (vs : List Val) (st : Store) : R Val :=
  match a with
  | .p d =>
    match unPs (vs.map (see st)) with
    | some ds => R.of ((mtP m d ds).map .p) st
    | none => .no
  | .r k =>
    match st[k]? with
    | some c =>
      match mtC m c vs (vs.map (see st)) with
      | some (v, c') => .ok v (st.set k c')
      | none =>
        match seeC c, unPs (vs.map (see st)) with
        | some d, some ds => R.of ((mtP m d ds).map .p) st
        | _, _ => .no
    | none => .no
  | _ => .no
inductive Kd where
  | str | list | dict
  deriving DecidableEq
def mkind (st : Store) (v : Val) : Option Kd :=
  match see st v with
  | .p (.str _) => some .str
  | .p (.list _) => some .list
  | .p (.dict _) => some .dict
  | .r k =>
    match st[k]? with
    | some (.ml _) => some .list
    | some (.md _) => some .dict
    | _ => none
  | _ => none
def supp : Mt → Kd → Bool
  | .split, .str => true
  | .join, .str => true
  | .lstrip, .str => true
  | .partition, .str => true
  | .rpartition, .str => true
  | .startswith, .str => true
  | .append, .list => true
  | .extend, .list => true
  | .pop, .list => true
  | .update, .dict => true
  | _, _ => false
/-- storing at a key or a place -/
def putC (c : Cell) (i : PyData) (v : Val) : Option Cell :=
  match c with
  | .pl ds => match i, v with
    | .int i, .p d => (L2.ixN ds.length i).map fun j => .pl (ds.set j d)
    | _, _ => none
  | .ml vs => match i with
    | .int i => (L2.ixN vs.length i).map fun j => .ml (vs.set j v)
    | _ => none
  | .pd kvs => match v with
    | .p d => if kvs.length < SZ ∧ keyed i = true ∧ kindOK kvs i = true then some (.pd (putK kvs i d)) else none
    | _ => none
  | .md _ => none
  | _ => none

/-! ### the language -/
inductive Ex where
  | var (i : Nat)
  | con (d : PyData)
  | glo (g : Nat)
  | bin (o : BinO) (a b : Ex)
  | neg (a : Ex)
  | and (a b : Ex)
  | or (a b : Ex)
  | not (a : Ex)
  | ite (c a b : Ex)
  | cmp (o : CmpO) (a b : Ex)
  | chn (o o' : CmpO) (a b c : Ex)
  | tup (es : Ex)
  | lst (f : Nat) (es : Ex)
  | dic (f : Nat) (kvs : Ex)
  | idx (a i : Ex)
  | slc (a lo hi : Ex)
  | call (f : Nat) (es : Ex)
  | callk (f n : Nat) (ks : List Str) (pm : List Nat) (a b : Ex)
  | bi (b : Bi) (es : Ex)
  | new (f : Nat) (b : Bi) (es : Ex)
  | cat (f : Nat) (a b : Ex)
  | cut (f : Nat) (a lo hi : Ex)
  | mth (m : Mt) (a es : Ex)
  | isi (a : Ex) (ts : List Ty)
  | lc (f : Nat) (is : List Nat) (it c e : Ex)
  | rng (a b : Ex)
  | enu (a : Ex)
  | zip (a b : Ex)
  | frz (a : Ex)
  | ing (neg : Bool) (a : Ex) (g : Nat)
  | bad
  | nil
  | cons (a b : Ex)
  deriving Inhabited
inductive Lv where
  | n (i : Nat)
  | t (is : List Nat)
  | sub (a i : Ex)
  | fld (a : Ex) (f : Str)
  deriving Inhabited
inductive Sm where
  | skip
  | seq (a b : Sm)
  | asg (t : Lv) (e : Ex)
  | ex (e : Ex)
  | ret (e : Ex)
  | ife (c : Ex) (a b : Sm)
  | whl (c : Ex) (a : Sm)
  | for_ (is : List Nat) (it : Ex) (b : Sm)
  | brk
  | cnt
  | rse (c : Nat) (es : Ex)
  | tr (b : Sm) (c : Nat) (n : Option Nat) (h : Sm)
  | bad
  deriving Inhabited

/-- what the evaluator is given: the defs, the module's constants, isinstance of own classes, the bound of whiles -/
structure Kit where
  fn : Nat → List Val → Store → R Val
  con : Nat → Option PyData
  sub : Nat → Nat → Bool
  wh : Nat
  isx : Nat → Ty → Option Bool
  iso : Nat → Ty → Option Bool

def alloc (f : Nat) (vs : List Val) (st : Store) : R Val :=
  match f with
  | 0 => .ok (mkL vs) st
  | 1 => match unPs vs with
    | some ds => .ok (.r st.length) (st ++ [.pl ds])
    | none => .no
  | _ => .ok (.r st.length) (st ++ [.ml vs])
def allocD (f : Nat) (kvs : List (PyData × Val)) (st : Store) : R Val :=
  match f with
  | 0 => match unPs (kvs.map (·.2)) with
    | some ds => .ok (.p (.dict ((kvs.map (·.1)).zip ds))) st
    | none => .no
  | 1 => match unPs (kvs.map (·.2)) with
    | some ds => .ok (.r st.length) (st ++ [.pd ((kvs.map (·.1)).zip ds)])
    | none => .no
  | _ => .ok (.r st.length) (st ++ [.md kvs])
def pairsOf : List Val → Option (List (PyData × Val))
  | [] => some []
  | .p k :: v :: r => (pairsOf r).map ((k, v) :: ·)
  | _ => none
def mergeV (kvs : List (PyData × Val)) : List (PyData × Val) := kvs.foldl (fun a q => putK a q.1 q.2) []
/-- to names: one, or some from a tuple or a list -/
def bindV (st : Store) (is : List Nat) (v : Val) (env : Env) : Option Env :=
  match is with
  | [i] => some (env.set i (some v))
  | is =>
    match see st v with
    | .p (.tuple ds) => if ds.length = is.length then some ((is.zip (ds.map Val.p)).foldl (fun e q => e.set q.1 (some q.2)) env) else none
    | .t vs => if vs.length = is.length then some ((is.zip vs).foldl (fun e q => e.set q.1 (some q.2)) env) else none
    | _ => none
def isB (t : Ty) : Bool := match t with
  | .own _ => false
  | _ => true
def isiV (K : Kit) (st : Store) (v : Val) (t : Ty) : Option Bool :=
  match see st v with
  | .p d => if isB t = true then tyD d t else none
  | .x c _ => K.isx c t
  | .t _ => if isB t = true then some (match t with | .tuple => true | _ => false) else none
  | .l _ => if isB t = true then some (match t with | .list => true | _ => false) else none
  | .r k => match st[k]? with
    | some (.ob c _) => K.iso c t
    | some (.ml _) => if isB t = true then some (match t with | .list => true | _ => false) else none
    | some (.md _) => if isB t = true then some (match t with | .dict => true | _ => false) else none
    | _ => none
def isiAny (K : Kit) (st : Store) (v : Val) : List Ty → Option Bool
  | [] => some false
  | t :: ts => match isiV K st v t with
    | some true => some true
    | some false => isiAny K st v ts
    | none => none
def frzV (v : Val) (st : Store) : R Val :=
  match v with
  | .r k => match st[k]? with
    | some c => match seeC c with
      | some d => .ok (.p d) (st.set k (.fz d))
      | none => .no
    | none => .no
  | v => .ok v st
/-- over the items: each turn gives none or one more item -/
def lcGo (turn : Val → Store → R (Option Val)) : List Val → List Val → Store → R (List Val)
  | [], acc, st => .ok acc st
  | v :: vs, acc, st => match turn v st with
    | .ok (some x) st1 => lcGo turn vs (acc ++ [x]) st1
    | .ok none st1 => lcGo turn vs acc st1
    | .er _ _ _ => .no
    | .no => .no
def intArg : Val → Option Int
  | .p (.int i) => some i
  | _ => none
def rangeV (lo hi : Int) : List Val := (List.range (hi - lo).toNat).map fun (n : Nat) => .p (.int (lo + (n : Int)))
def enumV : Nat → List Val → List Val
  | _, [] => []
  | n, v :: vs => mkT [.p (.int n), v] :: enumV (n + 1) vs

/-- a list, a tuple, a text: its items -/
def itemsF : Val → Option (List Val)
  | .p (.list ds) => some (ds.map .p)
  | .p (.tuple ds) => some (ds.map .p)
  | .p (.str s) => some ((charsOf s).map .p)
  | .t vs => some vs
  | .l vs => some vs
  | _ => none
/-- two lists, or a text and a tuple -/
def zipV (x y : Val) : Option (List Val) :=
  match asL x, asL y with
  | some vs, some ws => some ((vs.zip ws).map fun q => mkT [q.1, q.2])
  | _, _ => match x, y with
    | .p (.str s), .p (.tuple ds) => some ((((charsOf s).map Val.p).zip (ds.map Val.p)).map fun q => mkT [q.1, q.2])
    | _, _ => none
/-- values in another order -/
def permL {α : Type} (pm : List Nat) (xs : List α) : List α := pm.filterMap fun i => xs[i]?
mutual
def evalX (K : Kit) : Ex → Env → Store → R Val
  | .var i, env, st => match env[i]? with
    | some (some v) => .ok v st
    | _ => .no
  | .con d, _, st => .ok (.p d) st
  | .glo g, _, st => match K.con g with
    | some d => .ok (.p d) st
    | none => .no
  | .bin o a b, env, st => (evalX K a env st).bind fun x st1 => (evalX K b env st1).bind fun y st2 => R.of (binV o (see st2 x) (see st2 y)) st2
  | .neg a, env, st => (evalX K a env st).bind fun x st1 => match x with
    | .p (.int i) => .ok (.p (.int (-i))) st1
    | _ => .no
  | .and a b, env, st => (evalX K a env st).bind fun x st1 => match truthV (see st1 x) with
    | some true => evalX K b env st1
    | some false => .ok x st1
    | none => .no
  | .or a b, env, st => (evalX K a env st).bind fun x st1 => match truthV (see st1 x) with
    | some true => .ok x st1
    | some false => evalX K b env st1
    | none => .no
  | .not a, env, st => (evalX K a env st).bind fun x st1 => match truthV (see st1 x) with
    | some b => .ok (.p (.bool (!b))) st1
    | none => .no
  | .ite c a b, env, st => (evalX K c env st).bind fun x st1 => match truthV (see st1 x) with
    | some true => evalX K a env st1
    | some false => evalX K b env st1
    | none => .no
  | .cmp o a b, env, st => (evalX K a env st).bind fun x st1 => (evalX K b env st1).bind fun y st2 => match cmpV o (see st2 x) (see st2 y) with
    | some c => .ok (.p (.bool c)) st2
    | none => .no
  | .chn o o' a b c, env, st => (evalX K a env st).bind fun x st1 => (evalX K b env st1).bind fun y st2 => match cmpV o (see st2 x) (see st2 y) with
    | some true => (evalX K c env st2).bind fun z st3 => match cmpV o' (see st3 y) (see st3 z) with
      | some d => .ok (.p (.bool d)) st3
      | none => .no
    | some false => .ok (.p (.bool false)) st2
    | none => .no
  | .tup es, env, st => (evalL K es env st).bind fun vs st1 => if vs.length ≤ SZ then .ok (mkT vs) st1 else .no
  | .lst f es, env, st => (evalL K es env st).bind fun vs st1 => if vs.length ≤ SZ then alloc f vs st1 else .no
  | .dic f es, env, st => (evalL K es env st).bind fun vs st1 => match pairsOf vs with
    | some kvs => if (kvs.all fun q => isKey1 q.1) = true ∧ kvs.length ≤ 15 then allocD f (mergeV kvs) st1 else .no
    | none => .no
  | .idx a i, env, st => (evalX K a env st).bind fun x st1 => (evalX K i env st1).bind fun y st2 => R.of (idxV st2 x y) st2
  | .slc a lo hi, env, st => (evalX K a env st).bind fun x st1 => (evalO K lo env st1).bind fun i st2 => (evalO K hi env st2).bind fun j st3 => R.of (slcV st3 i j x) st3
  | .call f es, env, st => (evalL K es env st).bind fun vs st1 => K.fn f vs st1
  | .callk f n ks pm a b, env, st => (evalL K a env st).bind fun vs st1 => (evalL K b env st1).bind fun ws st2 => if vs.length = n ∧ ws.length = ks.length then K.fn f (permL pm (vs ++ ws)) st2 else .no
  | .bi b es, env, st => (evalL K es env st).bind fun vs st1 => R.of (biV b vs st1) st1
  | .new f b es, env, st => (evalL K es env st).bind fun vs st1 => match biV b vs st1 with
    | some (.p (.list ds)) => alloc f (ds.map .p) st1
    | some (.p (.dict kvs)) => allocD f (kvs.map fun q => (q.1, .p q.2)) st1
    | _ => .no
  | .cat f a b, env, st => (evalX K a env st).bind fun x st1 => (evalX K b env st1).bind fun y st2 => match asL (see st2 x), asL (see st2 y) with
    | some xs, some ys => if xs.length + ys.length ≤ SZ then alloc f (xs ++ ys) st2 else .no
    | _, _ => .no
  | .cut f a lo hi, env, st => (evalX K a env st).bind fun x st1 => (evalO K lo env st1).bind fun i st2 => (evalO K hi env st2).bind fun j st3 => match seqL st3 x with
    | some xs => alloc f (cutL xs i j) st3
    | none => .no
  | .mth m a es, env, st => (evalX K a env st).bind fun x st1 => match mkind st1 x with
    | some kd => if supp m kd = true then (evalL K es env st1).bind fun vs st2 => mtV m x vs st2 else .no
    | none => .no
  | .isi a ts, env, st => (evalX K a env st).bind fun x st1 => match isiAny K st1 x ts with
    | some b => .ok (.p (.bool b)) st1
    | none => .no
  | .lc f is it c e, env, st => (evalI K it env st).bind fun items st1 =>
    (lcGo (fun v s => match bindV s is v env with
      | some env1 => (evalT K c env1 s).bind fun b s1 => match b with
        | true => (evalX K e env1 s1).bind fun x s2 => .ok (some x) s2
        | false => .ok none s1
      | none => .no) items [] st1).bind fun vs st2 => if vs.length ≤ SZ then alloc f vs st2 else .no
  | .frz a, env, st => (evalX K a env st).bind fun x st1 => frzV x st1
  | .ing neg a g, env, st => (evalX K a env st).bind fun x st1 => match see st1 x, K.con g with
    | .p d, some (.tuple ds) => if flatD d = true ∧ ds.all flatD = true then .ok (.p (.bool (if neg then !(ds.any fun z => PyData.eqv z d) else ds.any fun z => PyData.eqv z d))) st1 else .no
    | _, _ => .no
  | _, _, _ => .no
/-- a list of expressions -/
def evalL (K : Kit) : Ex → Env → Store → R (List Val)
  | .nil, _, st => .ok [] st
  | .cons a b, env, st => (evalX K a env st).bind fun x st1 => (evalL K b env st1).bind fun xs st2 => .ok (x :: xs) st2
  | _, _, _ => .no
/-- a part of a slice -/
def evalO (K : Kit) : Ex → Env → Store → R (Option Int)
  | .nil, _, st => .ok none st
  | .cons a _, env, st => (evalX K a env st).bind fun x st1 => match x with
    | .p (.int i) => .ok (some i) st1
    | _ => .no
  | _, _, _ => .no
/-- a test; nil: no test -/
def evalT (K : Kit) : Ex → Env → Store → R Bool
  | .nil, _, st => .ok true st
  | .cons a _, env, st => (evalX K a env st).bind fun x st1 => match truthV (see st1 x) with
    | some b => .ok b st1
    | none => .no
  | _, _, _ => .no
/-- what a for walks -/
def evalI (K : Kit) : Ex → Env → Store → R (List Val)
  | .rng a b, env, st => (evalX K a env st).bind fun x st1 => (evalX K b env st1).bind fun y st2 => match x, y with
    | .p (.int i), .p (.int j) => if -(2 ^ 62) ≤ i ∧ i < 2 ^ 62 ∧ -(2 ^ 62) ≤ j ∧ j < 2 ^ 62 then .ok (rangeV i j) st2 else .no
    | _, _ => .no
  | .enu a, env, st => (evalX K a env st).bind fun x st1 => (frzV x st1).bind fun x st1 => match asL x with
    | some vs => .ok (enumV 0 vs) st1
    | none => .no
  | .zip a b, env, st => (evalX K a env st).bind fun x st1 => (evalX K b env st1).bind fun y st2 => (frzV x st2).bind fun x st2 => (frzV y st2).bind fun y st2 => match zipV x y with
    | some vs => .ok vs st2
    | none => .no
  | .cons a _, env, st => (evalX K a env st).bind fun x st1 => (frzV x st1).bind fun x st1 => match itemsF x with
    | some vs => .ok vs st1
    | none => .no
  | _, _, _ => .no
end

inductive Fl where
  | nx (env : Env) (st : Store)
  | rt (v : Val) (st : Store)
  | bk (env : Env) (st : Store)
  | ct (env : Env) (st : Store)
  | er (c : Nat) (fs : List (Str × PyData)) (env : Env) (st : Store)
  | no
def R.fl {α : Type} (r : R α) (env : Env) (f : α → Store → Fl) : Fl :=
  match r with
  | .ok a st => f a st
  | .er c fs st => .er c fs env st
  | .no => .no
@[simp] theorem R.fl_ok {α : Type} (a : α) (st : Store) (env : Env) (f : α → Store → Fl) : (R.ok a st).fl env f = f a st := rfl
@[simp] theorem R.fl_er {α : Type} (c : Nat) (fs : List (Str × PyData)) (st : Store) (env : Env) (f : α → Store → Fl) : (R.er c fs st : R α).fl env f = .er c fs env st := rfl
@[simp] theorem R.fl_no {α : Type} (env : Env) (f : α → Store → Fl) : (R.no : R α).fl env f = .no := rfl
def forGo (turn : Val → Env → Store → Fl) : List Val → Env → Store → Fl
  | [], env, st => .nx env st
  | v :: vs, env, st => match turn v env st with
    | .nx e1 s1 => forGo turn vs e1 s1
    | .ct e1 s1 => forGo turn vs e1 s1
    | .bk e1 s1 => .nx e1 s1
    | .rt v s1 => .rt v s1
    | .er c fs e1 s1 => .er c fs e1 s1
    | .no => .no
def whGo (test : Env → Store → R Bool) (turn : Env → Store → Fl) : Nat → Env → Store → Fl
  | 0, _, _ => .no
  | n + 1, env, st => (test env st).fl env fun b s1 => match b with
    | false => .nx env s1
    | true => match turn env s1 with
      | .nx e1 s1 => whGo test turn n e1 s1
      | .ct e1 s1 => whGo test turn n e1 s1
      | .bk e1 s1 => .nx e1 s1
      | .rt v s1 => .rt v s1
      | .er c fs e1 s1 => .er c fs e1 s1
      | .no => .no
/-- what the fields of a raised exception are -/
def excFs (c : Nat) (fields : Nat → List Str) (ds : List PyData) : Option (List (Str × PyData)) :=
  if (fields c).length = ds.length then some ((fields c).zip ds) else none

def execS (K : Kit) (fields : Nat → List Str) : Sm → Env → Store → Fl
  | .skip, env, st => .nx env st
  | .seq a b, env, st => match execS K fields a env st with
    | .nx e1 s1 => execS K fields b e1 s1
    | f => f
  | .asg t e, env, st => (evalX K e env st).fl env fun v s1 => match t with
    | .n i => .nx (env.set i (some v)) s1
    | .t is => match bindV s1 is v env with
      | some env1 => .nx env1 s1
      | none => .no
    | .sub a i => (evalX K a env s1).fl env fun x s2 => (evalX K i env s2).fl env fun y s3 => match x, y with
      | .r k, .p i => match s3[k]? with
        | some c => match putC c i v with
          | some c' => .nx env (s3.set k c')
          | none => .no
        | none => .no
      | _, _ => .no
    | .fld _ _ => .no
  | .ex e, env, st => (evalX K e env st).fl env fun _ s1 => .nx env s1
  | .ret e, env, st => (evalX K e env st).fl env fun v s1 => .rt v s1
  | .ife c a b, env, st => (evalT K c env st).fl env fun t s1 => match t with
    | true => execS K fields a env s1
    | false => execS K fields b env s1
  | .whl c a, env, st => whGo (evalT K c) (execS K fields a) K.wh env st
  | .for_ is it b, env, st => (evalI K it env st).fl env fun items s1 => forGo (fun v e s => match bindV s is v e with
    | some e1 => execS K fields b e1 s
    | none => .no) items env s1
  | .bad, _, _ => .no
  | .brk, env, st => .bk env st
  | .cnt, env, st => .ct env st
  | .rse c es, env, st => (evalL K es env st).fl env fun vs s1 => match unPs (vs.map (see s1)) with
    | some ds => match excFs c fields ds with
      | some fs => .er c fs env s1
      | none => .no
    | none => .no
  | .tr b c n h, env, st => match execS K fields b env st with
    | .er c' fs e1 s1 => if K.sub c' c then (match n with
        | some i => (match execS K fields h (e1.set i (some (.x c' fs))) s1 with
          | .nx e2 s2 => .nx (e2.set i none) s2
          | .bk e2 s2 => .bk (e2.set i none) s2
          | .ct e2 s2 => .ct (e2.set i none) s2
          | f => f)
        | none => execS K fields h e1 s1) else .er c' fs e1 s1
    | f => f

structure Fn where
  np : Nat
  ns : Nat
  keep : Bool
  body : Sm
structure Pg where
  fns : Nat → Option Fn
  con : Nat → Option PyData
  sub : Nat → Nat → Bool
  fields : Nat → List Str
  wh : Nat
  isx : Nat → Ty → Option Bool
  iso : Nat → Ty → Option Bool
mutual
def below (n : Nat) : Val → Bool
  | .p _ => true
  | .r k => decide (k < n)
  | .t xs => belowL n xs
  | .l xs => belowL n xs
  | .x _ _ => true
def belowL (n : Nat) : List Val → Bool
  | [] => true
  | v :: vs => below n v && belowL n vs
end
def cellBelow (n : Nat) : Cell → Bool
  | .pl _ => true
  | .ml vs => belowL n vs
  | .pd _ => true
  | .md kvs => belowL n (kvs.map (·.2))
  | .ob _ fs => belowL n (fs.map (·.2))
  | .fz _ => true
  | .lk c => cellBelow n c
/-- a def is left: its own cells are forgotten -/
def leave (keep : Bool) (n : Nat) (v : Val) (st : Store) : R Val :=
  match keep with
  | true => .ok v st
  | false =>
    if (st.take n).all (cellBelow n) = true then
      match v with
      | .p d => .ok (.p d) (st.take n)
      | .r k => if k < n then .ok (.r k) (st.take n) else match see st v with
        | .p d => .ok (.p d) (st.take n)
        | _ => .no
      | w => if below n w = true then .ok w (st.take n) else .no
    else .no
def leaveE (keep : Bool) (n : Nat) (c : Nat) (fs : List (Str × PyData)) (st : Store) : R Val :=
  match keep with
  | true => .er c fs st
  | false => if (st.take n).all (cellBelow n) then .er c fs (st.take n) else .no
def runF (P : Pg) : Nat → Nat → List Val → Store → R Val
  | 0, _, _, _ => .no
  | n + 1, f, vs, st =>
    match P.fns f with
    | some d => if vs.length = d.np then
        (match execS ⟨runF P n, P.con, P.sub, P.wh, P.isx, P.iso⟩ P.fields d.body (vs.map some ++ List.replicate (d.ns - d.np) none) st with
        | .rt v s1 => leave d.keep st.length v s1
        | .nx _ s1 => leave d.keep st.length (.p .none) s1
        | .er c fs _ s1 => leaveE d.keep st.length c fs s1
        | .bk _ _ => .no
        | .ct _ _ => .no
        | .no => .no) else .no
    | none => .no
def kitOf (P : Pg) (n : Nat) : Kit := ⟨runF P n, P.con, P.sub, P.wh, P.isx, P.iso⟩
end Vm
end

section
/-! V1: how the evaluator's values stand in the abstract heap. -/
namespace Vm
open PySem L2

def keyD : Key → PyData
  | .inl i => .int i
  | .inr x => .str x
mutual
inductive Dat (K : PySem.W.Frag) (F : Hp) : V → PyData → Prop
  | non : Dat K F .non .none
  | bl (b : Bool) : Dat K F (.bl b) (.bool b)
  | int (i : Int) : Dat K F (.int i) (.int i)
  | str (x : Str) : Dat K F (.str x) (.str x)
  | lst {a : Addr} {xs : List V} {ds : List PyData} : Rd F a (.lst xs) → DatL K F xs ds → Dat K F (.ref a) (.list ds)
  | tup {a : Addr} {xs : List V} {ds : List PyData} : F a = some (.tup xs) → DatL K F xs ds → Dat K F (.ref a) (.tuple ds)
  | dik {a : Addr} {kvs : List (Key × V)} {es : List (PyData × PyData)} : Rd F a (.dK kvs) → DatK K F kvs es → Dat K F (.ref a) (.dict es)
  | dit {a : Addr} {kvs : List (List Key × V)} {es : List (PyData × PyData)} : Rd F a (.dT kvs) → DatT K F kvs es → Dat K F (.ref a) (.dict es)
inductive DatL (K : PySem.W.Frag) (F : Hp) : List V → List PyData → Prop
  | nil : DatL K F [] []
  | cons {v : V} {vs : List V} {d : PyData} {ds : List PyData} : Dat K F v d → DatL K F vs ds → DatL K F (v :: vs) (d :: ds)
inductive DatK (K : PySem.W.Frag) (F : Hp) : List (Key × V) → List (PyData × PyData) → Prop
  | nil : DatK K F [] []
  | cons {k : Key} {v : V} {vs : List (Key × V)} {d : PyData} {ds : List (PyData × PyData)} : Dat K F v d → DatK K F vs ds → DatK K F ((k, v) :: vs) ((keyD k, d) :: ds)
inductive DatT (K : PySem.W.Frag) (F : Hp) : List (List Key × V) → List (PyData × PyData) → Prop
  | nil : DatT K F [] []
  | cons {k : List Key} {v : V} {vs : List (List Key × V)} {d : PyData} {ds : List (PyData × PyData)} : Dat K F v d → DatT K F vs ds → DatT K F ((k, v) :: vs) ((.tuple (k.map keyD), d) :: ds)
end
/-- what F holds stands in H; a dict may be locked -/
def Sub (F H : Hp) : Prop := ∀ a o, F a = some o → H a = some o ∨ ((∃ kvs, o = .dK kvs) ∨ ∃ kvs, o = .dT kvs) ∧ ∃ ob, H a = some (.frz ob o)
theorem Sub.refl (F : Hp) : Sub F F := fun _ _ h => .inl h
theorem Sub.lst {F H : Hp} (s : Sub F H) {a : Addr} {xs : List V} (h : F a = some (.lst xs)) : H a = some (.lst xs) := by
  rcases s a _ h with h | ⟨⟨_, e⟩ | ⟨_, e⟩, _⟩
  · exact h
  · cases e
  · cases e
theorem Sub.tup {F H : Hp} (s : Sub F H) {a : Addr} {xs : List V} (h : F a = some (.tup xs)) : H a = some (.tup xs) := by
  rcases s a _ h with h | ⟨⟨_, e⟩ | ⟨_, e⟩, _⟩
  · exact h
  · cases e
  · cases e
theorem Sub.frz {F H : Hp} (s : Sub F H) {a : Addr} {ob : Obj} {u : HO} (h : F a = some (.frz ob u)) : H a = some (.frz ob u) := by
  rcases s a _ h with h | ⟨⟨_, e⟩ | ⟨_, e⟩, _⟩
  · exact h
  · cases e
  · cases e
theorem Sub.rd {F H : Hp} (s : Sub F H) {a : Addr} {u : HO} (h : Rd F a u) : Rd H a u := by
  rcases h with h | ⟨o, h⟩
  · rcases s a _ h with h | ⟨_, ob, h⟩
    · exact .inl h
    · exact .inr ⟨ob, h⟩
  · exact .inr ⟨o, s.frz h⟩
theorem Sub.seq {K : PySem.W.Frag} {F H : Hp} (s : Sub F H) {a : Addr} {xs : List V} (h : SqL K F a xs) : SqL K H a xs := h.imp s.rd id
theorem Sub.seqT {K : PySem.W.Frag} {F H : Hp} (s : Sub F H) {a : Addr} {xs : List V} (h : SqT K F a xs) : SqT K H a xs := h.imp s.rd id
theorem Same.sub {F H : Hp} (s : Same F H) : Sub F H := fun a o h => .inl (s a o h)

section
variable {K : PySem.W.Frag} {F H : Hp}
mutual
theorem Dat.mono (s : Sub F H) : ∀ (d : PyData) (v : V), Dat K F v d → Dat K H v d
  | .none, _, h => by cases h; exact .non
  | .bool b, _, h => by cases h; exact .bl b
  | .int i, _, h => by cases h; exact .int i
  | .str x, _, h => by cases h; exact .str x
  | .list ds, _, h => by
    cases h with
    | lst h1 h2 => exact .lst (s.rd h1) (DatL.mono s ds _ h2)
  | .tuple ds, _, h => by
    cases h with
    | tup h1 h2 => exact .tup (s.tup h1) (DatL.mono s ds _ h2)
  | .dict es, _, h => by
    cases h with
    | dik h1 h2 => exact .dik (s.rd h1) (DatK.mono s es _ h2)
    | dit h1 h2 => exact .dit (s.rd h1) (DatT.mono s es _ h2)
theorem DatL.mono (s : Sub F H) : ∀ (ds : List PyData) (vs : List V), DatL K F vs ds → DatL K H vs ds
  | [], _, h => by cases h; exact .nil
  | d :: ds, _, h => by
    cases h with
    | cons h1 h2 => exact .cons (Dat.mono s d _ h1) (DatL.mono s ds _ h2)
theorem DatK.mono (s : Sub F H) : ∀ (ds : List (PyData × PyData)) (vs : List (Key × V)), DatK K F vs ds → DatK K H vs ds
  | [], _, h => by cases h; exact .nil
  | (k, d) :: ds, _, h => by
    cases h with
    | cons h1 h2 => exact .cons (Dat.mono s d _ h1) (DatK.mono s ds _ h2)
theorem DatT.mono (s : Sub F H) : ∀ (ds : List (PyData × PyData)) (vs : List (List Key × V)), DatT K F vs ds → DatT K H vs ds
  | [], _, h => by cases h; exact .nil
  | (k, d) :: ds, _, h => by
    cases h with
    | cons h1 h2 => exact .cons (Dat.mono s d _ h1) (DatT.mono s ds _ h2)
end
theorem Dat.up {v : V} {d : PyData} (s : Sub F H) (h : Dat K F v d) : Dat K H v d := Dat.mono s d v h
theorem DatL.up {vs : List V} {ds : List PyData} (s : Sub F H) (h : DatL K F vs ds) : DatL K H vs ds := DatL.mono s ds vs h
mutual
/-- without a dict in it: the layer's own reading -/
theorem Dat.dp : ∀ (d : PyData) (v : V), d.canLay0 = true → Dat K F v d → Dp K F v d
  | .none, _, _, h => by cases h; exact .non
  | .bool b, _, _, h => by cases h; exact .bl b
  | .int i, _, _, h => by cases h; exact .int i
  | .str x, _, _, h => by cases h; exact .str x
  | .list ds, _, c, h => by
    cases h with
    | lst h1 h2 => exact .lst (.inl h1) (DatL.dp ds _ (by simpa [PyData.canLay0] using c) h2)
  | .tuple ds, _, c, h => by
    cases h with
    | tup h1 h2 => exact .tup (SqT.of h1) (DatL.dp ds _ (by simpa [PyData.canLay0] using c) h2)
  | .dict es, _, c, _ => by simp [PyData.canLay0] at c
theorem DatL.dp : ∀ (ds : List PyData) (vs : List V), PyData.canLayAll0 ds = true → DatL K F vs ds → DpAll K F vs ds
  | [], _, _, h => by cases h; exact .nil
  | d :: ds, _, c, h => by
    cases h with
    | cons h1 h2 =>
      have c' : d.canLay0 = true ∧ PyData.canLayAll0 ds = true := by simpa [PyData.canLayAll0] using c
      exact .cons (Dat.dp d _ c'.1 h1) (DatL.dp ds _ c'.2 h2)
end
theorem DatL.length {vs : List V} : ∀ {ds : List PyData}, DatL K F vs ds → vs.length = ds.length := by
  induction vs with
  | nil => intro ds h; cases h; rfl
  | cons v vs ih => intro ds h; cases h with | cons _ h2 => simp [ih h2]
theorem DatL.get : ∀ {vs : List V} {ds : List PyData} {i : Nat} {d : PyData}, DatL K F vs ds → ds[i]? = some d → ∃ v, vs[i]? = some v ∧ Dat K F v d
  | _, _, _, _, .nil, e => by simp at e
  | _, _, 0, _, .cons h _, e => by simp at e; subst e; exact ⟨_, rfl, h⟩
  | _, _, i + 1, _, .cons _ h, e => by
    obtain ⟨v, h1, h2⟩ := DatL.get (i := i) h (by simpa using e)
    exact ⟨v, by simpa using h1, h2⟩
theorem DatL.append : ∀ {vs ws : List V} {ds es : List PyData}, DatL K F vs ds → DatL K F ws es → DatL K F (vs ++ ws) (ds ++ es)
  | _, _, _, _, .nil, h => h
  | _, _, _, _, .cons h1 h2, h => .cons h1 (DatL.append h2 h)
theorem DatL.take : ∀ {vs : List V} {ds : List PyData} (n : Nat), DatL K F vs ds → DatL K F (vs.take n) (ds.take n)
  | _, _, 0, _ => by simp; exact .nil
  | _, _, _ + 1, .nil => .nil
  | _, _, n + 1, .cons h1 h2 => .cons h1 (DatL.take n h2)
theorem DatL.drop : ∀ {vs : List V} {ds : List PyData} (n : Nat), DatL K F vs ds → DatL K F (vs.drop n) (ds.drop n)
  | _, _, 0, h => h
  | _, _, _ + 1, .nil => .nil
  | _, _, n + 1, .cons h1 h2 => DatL.drop n h2
theorem DatL.set {v : V} {d : PyData} (h : Dat K F v d) : ∀ {vs : List V} {ds : List PyData} (i : Nat), DatL K F vs ds → DatL K F (vs.set i v) (ds.set i d)
  | _, _, _, .nil => .nil
  | _, _, 0, .cons _ h2 => .cons h h2
  | _, _, i + 1, .cons h1 h2 => .cons h1 (DatL.set h i h2)
theorem DatL.strs : ∀ (ss : List Str), DatL K F (ss.map V.str) (ss.map .str)
  | [] => .nil
  | s :: ss => .cons (.str s) (DatL.strs ss)
theorem DatL.ints : ∀ (ss : List Int), DatL K F (ss.map V.int) (ss.map .int)
  | [] => .nil
  | s :: ss => .cons (.int s) (DatL.ints ss)
end
end Vm
end

section
/-! V2: the store against the abstract heap; what an evaluation promises. -/
namespace Vm
open PySem L2

structure Tb where
  K : PySem.W.Frag
  exA : Nat → Addr
  obA : Nat → Addr
  G : Hp
/-- other objects that are left alone -/
def Tb.wG (T : Tb) (G : Hp) : Tb := { T with G := G }

/-- an exception that is kept: at a, of the class cls, its own dict at d -/
def ExcH (a : Addr) (cls : Value) (d : Addr) : HO := .ext fun h => ∃ (oe : Obj) (vs : Array Value), h.get? a = some oe ∧ oe.cls = cls ∧ oe.dict = some d ∧ oe.data = .fields vs
inductive FldR (K : PySem.W.Frag) (F : Hp) : List (Str × V) → List (Str × PyData) → Prop
  | nil : FldR K F [] []
  | cons {f : Str} {v : V} {d : PyData} {vs : List (Str × V)} {ds : List (Str × PyData)} : Dat K F v d → FldR K F vs ds → FldR K F ((f, v) :: vs) ((f, d) :: ds)
mutual
inductive VRel (T : Tb) (F : Hp) (ι : Nat → Addr) (n : Nat) : Val → V → Prop
  | p {d : PyData} {v : V} : Dat T.K F v d → VRel T F ι n (.p d) v
  | r {k : Nat} : k < n → VRel T F ι n (.r k) (.ref (ι k))
  | t {a : Addr} {xs : List V} {vs : List Val} : F a = some (.tup xs) → VRelL T F ι n vs xs → VRel T F ι n (.t vs) (.ref a)
  | l {a : Addr} {xs : List V} {vs : List Val} : F a = some (.lst xs) → VRelL T F ι n vs xs → VRel T F ι n (.l vs) (.ref a)
  | x {a d : Addr} {c : Nat} {fs : List (Str × V)} {ds : List (Str × PyData)} : F a = some (ExcH a (.ref (T.exA c)) d) → F d = some (.xd fs) → FldR T.K F fs ds → VRel T F ι n (.x c ds) (.ref a)
inductive VRelL (T : Tb) (F : Hp) (ι : Nat → Addr) (n : Nat) : List Val → List V → Prop
  | nil : VRelL T F ι n [] []
  | cons {v : Val} {x : V} {vs : List Val} {xs : List V} : VRel T F ι n v x → VRelL T F ι n vs xs → VRelL T F ι n (v :: vs) (x :: xs)
end
inductive OFld (T : Tb) (F : Hp) (ι : Nat → Addr) (n : Nat) : List (Str × Val) → List (Str × V) → Prop
  | nil : OFld T F ι n [] []
  | cons {f : Str} {v : Val} {x : V} {vs : List (Str × Val)} {xs : List (Str × V)} : VRel T F ι n v x → OFld T F ι n vs xs → OFld T F ι n ((f, v) :: vs) ((f, x) :: xs)
inductive MdK (T : Tb) (F : Hp) (ι : Nat → Addr) (n : Nat) : List (PyData × Val) → List (Key × V) → Prop
  | nil : MdK T F ι n [] []
  | cons {k : Key} {v : Val} {x : V} {vs : List (PyData × Val)} {xs : List (Key × V)} : VRel T F ι n v x → MdK T F ι n vs xs → MdK T F ι n ((keyD k, v) :: vs) ((k, x) :: xs)
inductive MdT (T : Tb) (F : Hp) (ι : Nat → Addr) (n : Nat) : List (PyData × Val) → List (List Key × V) → Prop
  | nil : MdT T F ι n [] []
  | cons {k : List Key} {v : Val} {x : V} {vs : List (PyData × Val)} {xs : List (List Key × V)} : VRel T F ι n v x → MdT T F ι n vs xs → MdT T F ι n ((.tuple (k.map keyD), v) :: vs) ((k, x) :: xs)

structure Next (F : Hp) (ι : Nat → Addr) (n : Nat) (F' : Hp) (ι' : Nat → Addr) : Prop where
  f : ∀ a o, F a = some o → F' a = some o
  i : ∀ k, k < n → ι' k = ι k
theorem Next.refl (F : Hp) (ι : Nat → Addr) (n : Nat) : Next F ι n F ι := ⟨fun _ _ h => h, fun _ _ => rfl⟩
theorem Next.trans {F F1 F2 : Hp} {ι ι1 ι2 : Nat → Addr} {n n1 : Nat} (a : Next F ι n F1 ι1) (b : Next F1 ι1 n1 F2 ι2) (h : n ≤ n1) : Next F ι n F2 ι2 :=
  ⟨fun x o e => b.f x o (a.f x o e), fun k hk => (b.i k (Nat.lt_of_lt_of_le hk h)).trans (a.i k hk)⟩
theorem Next.sub {F F1 : Hp} {ι ι1 : Nat → Addr} {n : Nat} (a : Next F ι n F1 ι1) : Sub F F1 := fun x o e => .inl (a.f x o e)

section
variable {T : Tb} {F F' : Hp} {ι ι' : Nat → Addr} {n n' : Nat}
theorem FldR.mono (s : Sub F F') : ∀ {fs : List (Str × V)} {ds : List (Str × PyData)}, FldR T.K F fs ds → FldR T.K F' fs ds
  | _, _, .nil => .nil
  | _, _, .cons h1 h2 => .cons (h1.up s) (FldR.mono s h2)
mutual
theorem VRel.mono (N : Next F ι n F' ι') (h : n ≤ n') : ∀ (v : Val) (x : V), VRel T F ι n v x → VRel T F' ι' n' v x
  | .p d, _, q => by cases q with | p q => exact .p (q.up N.sub)
  | .r k, _, q => by
    cases q with
    | r q =>
      rw [← N.i k q]
      exact .r (Nat.lt_of_lt_of_le q h)
  | .t vs, _, q => by cases q with | t q1 q2 => exact .t (N.f _ _ q1) (VRelL.mono N h vs _ q2)
  | .l vs, _, q => by cases q with | l q1 q2 => exact .l (N.f _ _ q1) (VRelL.mono N h vs _ q2)
  | .x c ds, _, q => by cases q with | x q1 q2 q3 => exact .x (N.f _ _ q1) (N.f _ _ q2) (q3.mono N.sub)
theorem VRelL.mono (N : Next F ι n F' ι') (h : n ≤ n') : ∀ (vs : List Val) (xs : List V), VRelL T F ι n vs xs → VRelL T F' ι' n' vs xs
  | [], _, q => by cases q; exact .nil
  | v :: vs, _, q => by cases q with | cons q1 q2 => exact .cons (VRel.mono N h v _ q1) (VRelL.mono N h vs _ q2)
end
theorem VRel.up {v : Val} {x : V} (N : Next F ι n F' ι') (h : n ≤ n') (q : VRel T F ι n v x) : VRel T F' ι' n' v x := VRel.mono N h v x q
theorem VRelL.up {v : List Val} {x : List V} (N : Next F ι n F' ι') (h : n ≤ n') (q : VRelL T F ι n v x) : VRelL T F' ι' n' v x := VRelL.mono N h v x q
theorem OFld.up (N : Next F ι n F' ι') (h : n ≤ n') : ∀ {vs : List (Str × Val)} {xs : List (Str × V)}, OFld T F ι n vs xs → OFld T F' ι' n' vs xs
  | _, _, .nil => .nil
  | _, _, .cons h1 h2 => .cons (h1.up N h) (OFld.up N h h2)
theorem MdK.up (N : Next F ι n F' ι') (h : n ≤ n') : ∀ {vs : List (PyData × Val)} {xs : List (Key × V)}, MdK T F ι n vs xs → MdK T F' ι' n' vs xs
  | _, _, .nil => .nil
  | _, _, .cons h1 h2 => .cons (h1.up N h) (MdK.up N h h2)
theorem MdT.up (N : Next F ι n F' ι') (h : n ≤ n') : ∀ {vs : List (PyData × Val)} {xs : List (List Key × V)}, MdT T F ι n vs xs → MdT T F' ι' n' vs xs
  | _, _, .nil => .nil
  | _, _, .cons h1 h2 => .cons (h1.up N h) (MdT.up N h h2)
theorem VRelL.length : ∀ {vs : List Val} {xs : List V}, VRelL T F ι n vs xs → vs.length = xs.length
  | _, _, .nil => rfl
  | _, _, .cons _ h => by simp [VRelL.length h]
theorem VRelL.get : ∀ {vs : List Val} {xs : List V} {i : Nat} {v : Val}, VRelL T F ι n vs xs → vs[i]? = some v → ∃ x, xs[i]? = some x ∧ VRel T F ι n v x
  | _, _, _, _, .nil, e => by simp at e
  | _, _, 0, _, .cons h _, e => by simp at e; subst e; exact ⟨_, rfl, h⟩
  | _, _, i + 1, _, .cons _ h, e => by
    obtain ⟨x, h1, h2⟩ := VRelL.get (i := i) h (by simpa using e)
    exact ⟨x, by simpa using h1, h2⟩
theorem VRelL.append : ∀ {vs ws : List Val} {xs ys : List V}, VRelL T F ι n vs xs → VRelL T F ι n ws ys → VRelL T F ι n (vs ++ ws) (xs ++ ys)
  | _, _, _, _, .nil, h => h
  | _, _, _, _, .cons h1 h2, h => .cons h1 (VRelL.append h2 h)
theorem VRelL.take : ∀ {vs : List Val} {xs : List V} (m : Nat), VRelL T F ι n vs xs → VRelL T F ι n (vs.take m) (xs.take m)
  | _, _, 0, _ => by simp; exact .nil
  | _, _, _ + 1, .nil => .nil
  | _, _, m + 1, .cons h1 h2 => .cons h1 (VRelL.take m h2)
theorem VRelL.drop : ∀ {vs : List Val} {xs : List V} (m : Nat), VRelL T F ι n vs xs → VRelL T F ι n (vs.drop m) (xs.drop m)
  | _, _, 0, h => h
  | _, _, _ + 1, .nil => .nil
  | _, _, m + 1, .cons h1 h2 => VRelL.drop m h2
theorem VRelL.set {v : Val} {x : V} (h : VRel T F ι n v x) : ∀ {vs : List Val} {xs : List V} (i : Nat), VRelL T F ι n vs xs → VRelL T F ι n (vs.set i v) (xs.set i x)
  | _, _, _, .nil => .nil
  | _, _, 0, .cons _ h2 => .cons h h2
  | _, _, i + 1, .cons h1 h2 => .cons h1 (VRelL.set h i h2)
/-- pure items -/
theorem VRelL.pure : ∀ {vs : List Val} {xs : List V} {ds : List PyData}, VRelL T F ι n vs xs → unPs vs = some ds → DatL T.K F xs ds
  | _, _, _, .nil, e => by simp [unPs] at e; subst e; exact .nil
  | v :: vs, _, _, .cons h1 h2, e => by
    cases v with
    | p d =>
      cases h1 with
      | p h1 =>
        cases q : unPs vs with
        | none => simp [unPs, unP, q] at e
        | some es =>
          simp [unPs, unP, q] at e
          subst e
          exact .cons h1 (VRelL.pure h2 q)
    | _ => simp [unPs, unP] at e
theorem VRelL.ofDat : ∀ {xs : List V} {ds : List PyData}, DatL T.K F xs ds → VRelL T F ι n (ds.map .p) xs
  | _, _, .nil => .nil
  | _, _, .cons h1 h2 => .cons (.p h1) (VRelL.ofDat h2)
end

section
variable {T T' : Tb} {F : Hp} {ι : Nat → Addr} {n : Nat}
structure SameT (T T' : Tb) : Prop where
  K : T'.K = T.K
  ex : T'.exA = T.exA
  ob : T'.obA = T.obA
theorem SameT.wG (T : Tb) (G : Hp) : SameT T (T.wG G) := ⟨rfl, rfl, rfl⟩
theorem SameT.symm (h : SameT T T') : SameT T' T := ⟨h.K.symm, h.ex.symm, h.ob.symm⟩
mutual
theorem VRel.tb (h : SameT T T') : ∀ (v : Val) (x : V), VRel T F ι n v x → VRel T' F ι n v x
  | .p d, _, q => by cases q with | p q => exact .p (by rw [h.K]; exact q)
  | .r k, _, q => by cases q with | r q => exact .r q
  | .t vs, _, q => by cases q with | t q1 q2 => exact .t q1 (VRelL.tb h vs _ q2)
  | .l vs, _, q => by cases q with | l q1 q2 => exact .l q1 (VRelL.tb h vs _ q2)
  | .x c ds, _, q => by cases q with | x q1 q2 q3 => exact .x (by rw [h.ex]; exact q1) q2 (by rw [h.K]; exact q3)
theorem VRelL.tb (h : SameT T T') : ∀ (vs : List Val) (xs : List V), VRelL T F ι n vs xs → VRelL T' F ι n vs xs
  | [], _, q => by cases q; exact .nil
  | v :: vs, _, q => by cases q with | cons q1 q2 => exact .cons (VRel.tb h v _ q1) (VRelL.tb h vs _ q2)
end
theorem VRel.to {v : Val} {x : V} (q : VRel T F ι n v x) (h : SameT T T') : VRel T' F ι n v x := VRel.tb h v x q
theorem VRelL.to {v : List Val} {x : List V} (q : VRelL T F ι n v x) (h : SameT T T') : VRelL T' F ι n v x := VRelL.tb h v x q
theorem OFld.to (h : SameT T T') : ∀ {vs : List (Str × Val)} {xs : List (Str × V)}, OFld T F ι n vs xs → OFld T' F ι n vs xs
  | _, _, .nil => .nil
  | _, _, .cons h1 h2 => .cons (h1.to h) (OFld.to h h2)
theorem MdK.to (h : SameT T T') : ∀ {vs : List (PyData × Val)} {xs : List (Key × V)}, MdK T F ι n vs xs → MdK T' F ι n vs xs
  | _, _, .nil => .nil
  | _, _, .cons h1 h2 => .cons (h1.to h) (MdK.to h h2)
theorem MdT.to (h : SameT T T') : ∀ {vs : List (PyData × Val)} {xs : List (List Key × V)}, MdT T F ι n vs xs → MdT T' F ι n vs xs
  | _, _, .nil => .nil
  | _, _, .cons h1 h2 => .cons (h1.to h) (MdT.to h h2)
end
/-- a cell, standing at a -/
def CellR (T : Tb) (F : Hp) (ι : Nat → Addr) (n : Nat) (H : Hp) (a : Addr) : Cell → Prop
  | .pl ds => F a = none ∧ ∃ xs, H a = some (.lst xs) ∧ DatL T.K F xs ds
  | .ml vs => F a = none ∧ ∃ xs, H a = some (.lst xs) ∧ VRelL T F ι n vs xs
  | .pd es => F a = none ∧ ((∃ kvs, H a = some (.dK kvs) ∧ DatK T.K F kvs es) ∨ ∃ kvs, H a = some (.dT kvs) ∧ DatT T.K F kvs es)
  | .md vs => F a = none ∧ ((∃ kvs, H a = some (.dK kvs) ∧ MdK T F ι n vs kvs) ∨ ∃ kvs, H a = some (.dT kvs) ∧ MdT T F ι n vs kvs)
  | .ob c fs => F a = none ∧ ∃ dx gs, H a = some (.ins (T.obA c) dx gs) ∧ OFld T F ι n fs gs
  | .fz d => (∃ o, F a = some o) ∧ Dat T.K F (.ref a) d
  | .lk _ => False
structure Sim (T : Tb) (F : Hp) (ι : Nat → Addr) (st : Store) (H : Hp) : Prop where
  sub : Sub F H
  cel : ∀ k c, st[k]? = some c → CellR T F ι st.length H (ι k) c
  inj : ∀ j k, j < st.length → k < st.length → ι j = ι k → j = k
  gd : ∀ a o, T.G a = some o → H a = some o
  gf : ∀ a o, T.G a = some o → F a = none ∧ ∀ k, k < st.length → ι k ≠ a

/-- new frozen things -/
structure FX (F H F' H' : Hp) : Prop where
  f : ∀ a o, F a = some o → F' a = some o
  h : ∀ a o, H a = some o → H' a = some o
  new : ∀ a o, F' a = some o → F a = some o ∨ (H a = none ∧ H' a = some o)
theorem FX.refl (F H : Hp) : FX F H F H := ⟨fun _ _ h => h, fun _ _ h => h, fun _ _ h => .inl h⟩
theorem FX.one {F H : Hp} {p : Addr} {o : HO} (hp : H p = none) (s : Sub F H) : FX F H (upd F p o) (upd H p o) := by
  have fp : F p = none := by
    cases e : F p with
    | none => rfl
    | some u =>
      rcases s p u e with h | ⟨_, ob, h⟩
      · rw [hp] at h; cases h
      · rw [hp] at h; cases h
  refine ⟨fun a u h => ?_, fun a u h => ?_, fun a u h => ?_⟩
  · rw [upd_ne (ne_of_none h fp)]; exact h
  · rw [upd_ne (ne_of_none h hp)]; exact h
  · by_cases e : a = p
    · subst e
      rw [upd_same] at h
      exact .inr ⟨hp, by rw [upd_same]; exact h⟩
    · rw [upd_ne e] at h
      exact .inl h
theorem FX.trans {F H F1 H1 F2 H2 : Hp} (a : FX F H F1 H1) (b : FX F1 H1 F2 H2) : FX F H F2 H2 := by
  refine ⟨fun x o h => b.f x o (a.f x o h), fun x o h => b.h x o (a.h x o h), fun x o h => ?_⟩
  rcases b.new x o h with h1 | ⟨h1, h2⟩
  · rcases a.new x o h1 with h3 | ⟨h3, h4⟩
    · exact .inl h3
    · exact .inr ⟨h3, b.h x o h4⟩
  · refine .inr ⟨?_, h2⟩
    cases e : H x with
    | none => rfl
    | some u => rw [a.h x u e] at h1; cases h1
theorem FX.sub {F H F' H' : Hp} (x : FX F H F' H') (s : Sub F H) : Sub F' H' := fun a o h => by
  rcases x.new a o h with h | ⟨_, h⟩
  · rcases s a o h with h | ⟨q, ob, h⟩
    · exact .inl (x.h a o h)
    · exact .inr ⟨q, ob, x.h a _ h⟩
  · exact .inl h
section
variable {T : Tb} {F F' H H' : Hp} {ι ι' : Nat → Addr} {n n' : Nat} {st : Store}
theorem FX.next (x : FX F H F' H') : Next F ι n F' ι := ⟨x.f, fun _ _ => rfl⟩
theorem FX.none (x : FX F H F' H') {a : Addr} {o : HO} (h : F a = none) (e : H a = some o) : F' a = none := by
  cases q : F' a with
  | none => rfl
  | some u =>
    rcases x.new a u q with h1 | ⟨h1, _⟩
    · rw [h] at h1; cases h1
    · rw [e] at h1; cases h1
theorem DatK.up (s : Sub F F') {vs : List (Key × V)} {ds : List (PyData × PyData)} (h : DatK T.K F vs ds) : DatK T.K F' vs ds := DatK.mono s ds vs h
theorem DatT.up (s : Sub F F') {vs : List (List Key × V)} {ds : List (PyData × PyData)} (h : DatT T.K F vs ds) : DatT T.K F' vs ds := DatT.mono s ds vs h
theorem FX.subF (x : FX F H F' H') : Sub F F' := fun a o h => .inl (x.f a o h)
/-- a cell stands on, while frozen things come -/
theorem CellR.fx (x : FX F H F' H') {a : Addr} {c : Cell} (h : CellR T F ι n H a c) : CellR T F' ι n H' a c := by
  have N : Next F ι n F' ι := x.next
  cases c with
  | pl ds => obtain ⟨h0, xs, h1, h2⟩ := h; exact ⟨x.none h0 h1, xs, x.h _ _ h1, h2.up x.subF⟩
  | ml ds => obtain ⟨h0, xs, h1, h2⟩ := h; exact ⟨x.none h0 h1, xs, x.h _ _ h1, h2.up N (Nat.le_refl _)⟩
  | pd ds =>
    obtain ⟨h0, ⟨xs, h1, h2⟩ | ⟨xs, h1, h2⟩⟩ := h
    · exact ⟨x.none h0 h1, .inl ⟨xs, x.h _ _ h1, h2.up (T := T) x.subF⟩⟩
    · exact ⟨x.none h0 h1, .inr ⟨xs, x.h _ _ h1, h2.up (T := T) x.subF⟩⟩
  | md ds =>
    obtain ⟨h0, ⟨xs, h1, h2⟩ | ⟨xs, h1, h2⟩⟩ := h
    · exact ⟨x.none h0 h1, .inl ⟨xs, x.h _ _ h1, h2.up N (Nat.le_refl _)⟩⟩
    · exact ⟨x.none h0 h1, .inr ⟨xs, x.h _ _ h1, h2.up N (Nat.le_refl _)⟩⟩
  | ob c fs => obtain ⟨h0, dx, gs, h1, h2⟩ := h; exact ⟨x.none h0 h1, dx, gs, x.h _ _ h1, h2.up N (Nat.le_refl _)⟩
  | fz d => obtain ⟨⟨o, h1⟩, h2⟩ := h; exact ⟨⟨o, x.f _ _ h1⟩, h2.up x.subF⟩
  | lk c => exact h.elim
theorem Sim.fx (S : Sim T F ι st H) (x : FX F H F' H') : Sim T F' ι st H' := ⟨x.sub S.sub, fun k c e => (S.cel k c e).fx x, S.inj, fun a o e => x.h a o (S.gd a o e), fun a o e => ⟨x.none (S.gf a o e).1 (S.gd a o e), (S.gf a o e).2⟩⟩
theorem CellR.to {T T' : Tb} {F H : Hp} {ι : Nat → Addr} {n : Nat} {a : Addr} {c : Cell} (h : CellR T F ι n H a c) (t : SameT T T') : CellR T' F ι n H a c := by
  cases c with
  | pl ds => obtain ⟨h0, xs, h1, h2⟩ := h; exact ⟨h0, xs, h1, by rw [t.K]; exact h2⟩
  | ml ds => obtain ⟨h0, xs, h1, h2⟩ := h; exact ⟨h0, xs, h1, h2.to t⟩
  | pd ds =>
    obtain ⟨h0, ⟨xs, h1, h2⟩ | ⟨xs, h1, h2⟩⟩ := h
    · exact ⟨h0, .inl ⟨xs, h1, by rw [t.K]; exact h2⟩⟩
    · exact ⟨h0, .inr ⟨xs, h1, by rw [t.K]; exact h2⟩⟩
  | md ds =>
    obtain ⟨h0, ⟨xs, h1, h2⟩ | ⟨xs, h1, h2⟩⟩ := h
    · exact ⟨h0, .inl ⟨xs, h1, h2.to t⟩⟩
    · exact ⟨h0, .inr ⟨xs, h1, h2.to t⟩⟩
  | ob c fs => obtain ⟨h0, dx, gs, h1, h2⟩ := h; exact ⟨h0, dx, gs, by rw [t.ob]; exact h1, h2.to t⟩
  | fz d => obtain ⟨h1, h2⟩ := h; exact ⟨h1, by rw [t.K]; exact h2⟩
  | lk c => exact h.elim
/-- with one more object left alone -/
theorem Sim.guard {T : Tb} {F H : Hp} {ι : Nat → Addr} {st : Store} {p : Addr} {o : HO} (S : Sim T F ι st H) (hp : H p = none) : Sim (T.wG (upd T.G p o)) F ι st (upd H p o) := by
  have fp : F p = none := by
    cases e : F p with
    | none => rfl
    | some u => rcases S.sub p u e with h | ⟨_, _, h⟩ <;> (rw [hp] at h; cases h)
  have ne : ∀ k, k < st.length → ι k ≠ p := fun k hk e => by
    have c := S.cel k st[k] (by simp [hk])
    rw [e] at c
    generalize st[k] = cc at c
    cases cc with
    | pl ds => obtain ⟨_, xs, h, _⟩ := c; rw [hp] at h; cases h
    | ml ds => obtain ⟨_, xs, h, _⟩ := c; rw [hp] at h; cases h
    | pd ds => obtain ⟨_, ⟨_, h, _⟩ | ⟨_, h, _⟩⟩ := c <;> (rw [hp] at h; cases h)
    | md ds => obtain ⟨_, ⟨_, h, _⟩ | ⟨_, h, _⟩⟩ := c <;> (rw [hp] at h; cases h)
    | ob c fs => obtain ⟨_, _, _, h, _⟩ := c; rw [hp] at h; cases h
    | fz d => obtain ⟨⟨u, h⟩, _⟩ := c; rw [fp] at h; cases h
    | lk c => exact c.elim
  refine ⟨fun a u e => ?_, fun k c e => ?_, S.inj, fun a u e => ?_, fun a u e => ?_⟩
  · have : a ≠ p := ne_of_none e fp
    rcases S.sub a u e with h | ⟨q, ob, h⟩
    · exact .inl (by rw [upd_ne this]; exact h)
    · exact .inr ⟨q, ob, by rw [upd_ne this]; exact h⟩
  · have c := (S.cel k c e).to (SameT.wG T (upd T.G p o))
    have hk : k < st.length := by
      rcases Nat.lt_or_ge k st.length with h | h
      · exact h
      · rw [List.getElem?_eq_none h] at e; cases e
    have c1 : ∀ u, H (ι k) = some u → upd H p o (ι k) = some u := fun u h => by rw [upd_ne (ne k hk)]; exact h
    rename_i cc
    cases cc with
    | pl ds => obtain ⟨h0, xs, h1, h2⟩ := c; exact ⟨h0, xs, c1 _ h1, h2⟩
    | ml ds => obtain ⟨h0, xs, h1, h2⟩ := c; exact ⟨h0, xs, c1 _ h1, h2⟩
    | pd ds =>
      obtain ⟨h0, ⟨xs, h1, h2⟩ | ⟨xs, h1, h2⟩⟩ := c
      · exact ⟨h0, .inl ⟨xs, c1 _ h1, h2⟩⟩
      · exact ⟨h0, .inr ⟨xs, c1 _ h1, h2⟩⟩
    | md ds =>
      obtain ⟨h0, ⟨xs, h1, h2⟩ | ⟨xs, h1, h2⟩⟩ := c
      · exact ⟨h0, .inl ⟨xs, c1 _ h1, h2⟩⟩
      · exact ⟨h0, .inr ⟨xs, c1 _ h1, h2⟩⟩
    | ob c fs => obtain ⟨h0, dx, gs, h1, h2⟩ := c; exact ⟨h0, dx, gs, c1 _ h1, h2⟩
    | fz d => exact c
    | lk c => exact c.elim
  · by_cases h : a = p
    · subst h
      have e : upd T.G a o a = some u := e
      rw [upd_same] at e ⊢
      exact e
    · have e : upd T.G p o a = some u := e
      rw [upd_ne h] at e ⊢
      exact S.gd a u e
  · by_cases h : a = p
    · subst h
      exact ⟨fp, ne⟩
    · have e : upd T.G p o a = some u := e
      rw [upd_ne h] at e
      exact S.gf a u e

/-! ### names -/
structure EnvR (T : Tb) (F : Hp) (ι : Nat → Addr) (n : Nat) (σ : L2.St) (env : Env) : Prop where
  len : env.length ≤ σ.length
  at_ : ∀ (i : Nat) (v : Val), env[i]? = some (some v) → ∃ x : V, σ[i]? = some (some x) ∧ VRel T F ι n v x
theorem EnvR.up {σ : L2.St} {env : Env} (N : Next F ι n F' ι') (h : n ≤ n') (e : EnvR T F ι n σ env) : EnvR T F' ι' n' σ env := ⟨e.len, fun i v q => by
  obtain ⟨x, h1, h2⟩ := e.at_ i v q
  exact ⟨x, h1, h2.up N h⟩⟩
end

/-! ### what an evaluation promises -/
abbrev XR := L2.WX
/-- the fields of an exception that flies: its class, its own dict -/
structure ExcR (T : Tb) (F : Hp) (c : Nat) (ds : List (Str × PyData)) (cls : Value) (d : Option Addr) : Prop where
  cls : cls = .ref (T.exA c)
  dct : ∃ dd fs, d = some dd ∧ F dd = some (.xd fs) ∧ FldR T.K F fs ds
def PostG {α β : Type} (Rel : Hp → (Nat → Addr) → Nat → α → β → Prop) (T : Tb) (W : L2.WX) (σ : L2.St) (F : Hp) (ι : Nat → Addr) (n : Nat) (r : R α) (Q : β → Hp → Prop) : Prop :=
  match r with
  | .ok v st' => ∀ F' ι' H' x, Next F ι n F' ι' → n ≤ st'.length → Sim T F' ι' st' H' → Rel F' ι' st'.length v x → Q x H'
  | .er c fs st' => ∀ F' ι' H' cls d, Next F ι n F' ι' → n ≤ st'.length → Sim T F' ι' st' H' → ExcR T F' c fs cls d → W cls d σ H'
  | .no => False
section
variable {α β γ δ : Type} {RA : Hp → (Nat → Addr) → Nat → α → β → Prop} {RB : Hp → (Nat → Addr) → Nat → γ → δ → Prop} {T : Tb} {W : L2.WX} {σ : L2.St} {F F' H H' : Hp} {ι ι' : Nat → Addr} {n n' : Nat} {st : Store}
theorem PostG.up {r : R α} {Q : β → Hp → Prop} (N : Next F ι n F' ι') (h : n ≤ n') (hn : ∀ (v : α) (s : Store), r = .ok v s → n' ≤ s.length → True) (p : PostG RA T W σ F ι n r Q) : PostG RA T W σ F' ι' n' r Q := by
  cases r with
  | ok v s => exact fun F2 ι2 H2 x N2 h2 S R => p F2 ι2 H2 x (N.trans N2 h) (Nat.le_trans h h2) S R
  | er c fs s => exact fun F2 ι2 H2 cls d N2 h2 S R => p F2 ι2 H2 cls d (N.trans N2 h) (Nat.le_trans h h2) S R
  | no => exact p
theorem PostG.imp {r : R α} {Q Q' : β → Hp → Prop} (p : PostG RA T W σ F ι n r Q) (h : ∀ x H, Q x H → Q' x H) : PostG RA T W σ F ι n r Q' := by
  cases r with
  | ok v s => exact fun F2 ι2 H2 x N2 h2 S R => h _ _ (p F2 ι2 H2 x N2 h2 S R)
  | er c fs s => exact p
  | no => exact p
/-- behind the first part -/
structure Mid (RA : Hp → (Nat → Addr) → Nat → α → β → Prop) (T : Tb) (F : Hp) (ι : Nat → Addr) (n : Nat) (H1 : Hp) (F1 : Hp) (ι1 : Nat → Addr) (v : α) (x : β) (st1 : Store) : Prop where
  nx : Next F ι n F1 ι1
  le : n ≤ st1.length
  sim : Sim T F1 ι1 st1 H1
  rel : RA F1 ι1 st1.length v x
theorem PostG.bind {r : R α} {g : α → Store → R γ} {Q : δ → Hp → Prop} (p : PostG RB T W σ F ι n (r.bind g) Q) :
    PostG RA T W σ F ι n r (fun x H1 => ∃ F1 ι1 v st1, Mid RA T F ι n H1 F1 ι1 v x st1 ∧ PostG RB T W σ F1 ι1 st1.length (g v st1) Q) := by
  cases r with
  | ok v s => exact fun F2 ι2 H2 x N2 h2 S R => ⟨F2, ι2, v, s, ⟨N2, h2, S, R⟩, PostG.up N2 h2 (fun _ _ _ _ => trivial) p⟩
  | er c fs s => exact p
  | no => exact p
/-- an evaluation as a reading -/
def tEvG (RA : Hp → (Nat → Addr) → Nat → α → β → Prop) (T : Tb) (W : L2.WX) (f : Env → Store → R α) : L2.St → Hp → (β → Hp → Prop) → Prop := fun σ H Q =>
  ∃ F ι env st, Sim T F ι st H ∧ EnvR T F ι st.length σ env ∧ PostG RA T W σ F ι st.length (f env st) Q
theorem tEvG.imp {f : Env → Store → R α} {Q Q' : β → Hp → Prop} (p : tEvG RA T W f σ H Q) (h : ∀ x H, Q x H → Q' x H) : tEvG RA T W f σ H Q' := by
  obtain ⟨F, ι, env, st, h1, h2, h3⟩ := p
  exact ⟨F, ι, env, st, h1, h2, h3.imp h⟩
/-- the state behind the first part -/
structure Mid2 (RA : Hp → (Nat → Addr) → Nat → α → β → Prop) (T : Tb) (σ : L2.St) (H1 : Hp) (F1 : Hp) (ι1 : Nat → Addr) (env : Env) (v : α) (x : β) (st1 : Store) : Prop where
  sim : Sim T F1 ι1 st1 H1
  env : EnvR T F1 ι1 st1.length σ env
  rel : RA F1 ι1 st1.length v x
theorem ev_bind {fa : Env → Store → R α} {g : Env → α → Store → R γ} {Q : δ → Hp → Prop} (p : tEvG RB T W (fun env st => (fa env st).bind (g env)) σ H Q) :
    tEvG RA T W fa σ H (fun x H1 => ∃ F1 ι1 env v st1, Mid2 RA T σ H1 F1 ι1 env v x st1 ∧ PostG RB T W σ F1 ι1 st1.length (g env v st1) Q) := by
  obtain ⟨F, ι, env, st, h1, h2, h3⟩ := p
  refine ⟨F, ι, env, st, h1, h2, (PostG.bind (RA := RA) h3).imp fun x H1 ⟨F1, ι1, v, st1, M, q⟩ => ⟨F1, ι1, env, v, st1, ⟨M.sim, h2.up M.nx M.le, M.rel⟩, q⟩⟩
/-- at once -/
theorem ev_go {f : Env → Store → R α} {Q : β → Hp → Prop} {env : Env} (S : Sim T F ι st H) (E : EnvR T F ι st.length σ env) (p : PostG RA T W σ F ι st.length (f env st) Q) : tEvG RA T W f σ H Q := ⟨F, ι, env, st, S, E, p⟩
/-- the answer is here -/
theorem PostG.now {v : α} {x : β} {Q : β → Hp → Prop} (p : PostG RA T W σ F ι n (.ok v st) Q) (N : Next F ι n F' ι') (h : n ≤ st.length) (S : Sim T F' ι' st H') (r : RA F' ι' st.length v x) : Q x H' := p F' ι' H' x N h S r
end
/-- relations of answers -/
abbrev RV (T : Tb) : Hp → (Nat → Addr) → Nat → Val → V → Prop := fun F ι n v x => VRel T F ι n v x
abbrev RL (T : Tb) : Hp → (Nat → Addr) → Nat → List Val → List V → Prop := fun F ι n v x => VRelL T F ι n v x
abbrev RE {α : Type} : Hp → (Nat → Addr) → Nat → α → α → Prop := fun _ _ _ v x => v = x
abbrev DE (X : Cx) (T : Tb) (W : L2.WX) (e : Expr) (f : Env → Store → R Val) : Prop := PE X e (tEvG (RV T) T W f)
abbrev DA (X : Cx) (T : Tb) (W : L2.WX) (es : List Expr) (f : Env → Store → R (List Val)) : Prop := PA X es (tEvG (RL T) T W f)
abbrev DT (X : Cx) (T : Tb) (W : L2.WX) (e : Expr) (f : Env → Store → R Bool) : Prop := PT X e (tEvG RE T W f)
theorem pe_imp {X : Cx} {e : Expr} {t t' : TE} (h : PE X e t) (i : ∀ σ H Q, t' σ H Q → t σ H Q) : PE X e t' := ⟨fun pins s σ H Q I q => h.run pins s σ H Q I (i _ _ _ q)⟩
theorem pa_imp {X : Cx} {e : List Expr} {t t' : TA} (h : PA X e t) (i : ∀ σ H Q, t' σ H Q → t σ H Q) : PA X e t' := ⟨fun pos pins s σ H Q I q => h.run pos pins s σ H Q I (i _ _ _ q)⟩
theorem pt_imp {X : Cx} {e : Expr} {t t' : TT} (h : PT X e t) (i : ∀ σ H Q, t' σ H Q → t σ H Q) : PT X e t' := ⟨fun pins s σ H Q I q => h.run pins s σ H Q I (i _ _ _ q)⟩
theorem pw_imp {X : Cx} {e : Expr} {t t' : TT} (h : PW X e t) (i : ∀ σ H Q, t' σ H Q → t σ H Q) : PW X e t' := ⟨fun whole pins s σ H Q I q => h.run whole pins s σ H Q I (i _ _ _ q)⟩
theorem ps_imp {X : Cx} {e : Stmt} {t t' : TS} (h : PS X e t) (i : ∀ D σ H, t' D σ H → t D σ H) : PS X e t' := ⟨fun pins s σ H D I q => h.run pins s σ H D I (i _ _ _ q)⟩
theorem pss_imp {X : Cx} {e : List Stmt} {t t' : TS} (h : PSs X e t) (i : ∀ D σ H, t' D σ H → t D σ H) : PSs X e t' := ⟨fun pins s σ H D I q => h.run pins s σ H D I (i _ _ _ q)⟩
theorem opr_imp {X : Cx} {f : Value → Value → Sem Value} {r r' : R2} (h : OpR X f r) (i : ∀ x y H Q, r' x y H Q → r x y H Q) : OpR X f r' := fun pins s σ H x y v u Q I rx ry q => h pins s σ H x y v u Q I rx ry (i _ _ _ _ q)
/-- a rule by cases of what is asked -/
theorem opr_by {X : Cx} {f : Value → Value → Sem Value} {r' : R2} (h : ∀ x y H Q, r' x y H Q → ∃ r, OpR X f r ∧ r x y H Q) : OpR X f r' := fun pins s σ H x y v u Q I rx ry q => by
  obtain ⟨r, h1, h2⟩ := h x y H Q q
  exact h1 pins s σ H x y v u Q I rx ry h2
theorem pe_by {X : Cx} {e : Expr} {t' : TE} (h : ∀ σ H Q, t' σ H Q → ∃ t, PE X e t ∧ t σ H Q) : PE X e t' := ⟨fun pins s σ H Q I q => by
  obtain ⟨t, h1, h2⟩ := h σ H Q q
  exact h1.run pins s σ H Q I h2⟩
theorem callr_by {X : Cx} {f : Value} {r' : List V → Hp → VK → Prop} (h : ∀ vs H Q, r' vs H Q → ∃ r, CallR X f r ∧ r vs H Q) : CallR X f r' := fun pins s σ H vs us Q I rv q => by
  obtain ⟨r, h1, h2⟩ := h vs H Q q
  exact h1 pins s σ H vs us Q I rv h2
end Vm
end

section
/-! V3: operators and comparisons on values. -/
namespace Vm
open PySem L2 PySem.Spec PyProof.Rows

inductive SeenP (K : PySem.W.Frag) (F H : Hp) : V → PyData → Prop
  | dat {x : V} {d : PyData} : Dat K F x d → SeenP K F H x d
  | lst {a : Addr} {xs : List V} {ds : List PyData} : H a = some (.lst xs) → DatL K F xs ds → SeenP K F H (.ref a) (.list ds)
  | dk {a : Addr} {kvs : List (Key × V)} {es : List (PyData × PyData)} : H a = some (.dK kvs) → DatK K F kvs es → SeenP K F H (.ref a) (.dict es)
  | dt {a : Addr} {kvs : List (List Key × V)} {es : List (PyData × PyData)} : H a = some (.dT kvs) → DatT K F kvs es → SeenP K F H (.ref a) (.dict es)
section
variable {T : Tb} {K : PySem.W.Frag} {F F' H H' : Hp} {ι : Nat → Addr} {n : Nat} {st : Store} {x y z : V} {a b c : Val} {d e : PyData}
theorem SeenP.list {ds : List PyData} (s : Sub F H) (h : SeenP K F H x (.list ds)) : ∃ a xs, x = .ref a ∧ Rd H a (.lst xs) ∧ DatL K F xs ds := by
  cases h with
  | dat h => cases h with | lst h1 h2 => exact ⟨_, _, rfl, s.rd h1, h2⟩
  | lst h1 h2 => exact ⟨_, _, rfl, .inl h1, h2⟩
theorem SeenP.tup {ds : List PyData} (s : Sub F H) (h : SeenP K F H x (.tuple ds)) : ∃ a xs, x = .ref a ∧ H a = some (.tup xs) ∧ F a = some (.tup xs) ∧ DatL K F xs ds := by
  cases h with
  | dat h => cases h with | tup h1 h2 => exact ⟨_, _, rfl, s.tup h1, h1, h2⟩
theorem SeenP.int {i : Int} (h : SeenP K F H x (.int i)) : x = .int i := by
  cases h with
  | dat h => cases h; rfl
theorem SeenP.bl {i : Bool} (h : SeenP K F H x (.bool i)) : x = .bl i := by
  cases h with
  | dat h => cases h; rfl
theorem SeenP.str {i : Str} (h : SeenP K F H x (.str i)) : x = .str i := by
  cases h with
  | dat h => cases h; rfl
theorem SeenP.non (h : SeenP K F H x .none) : x = .non := by
  cases h with
  | dat h => cases h; rfl
theorem SeenP.dict {es : List (PyData × PyData)} (s : Sub F H) (h : SeenP K F H x (.dict es)) : ∃ a, x = .ref a ∧ ((∃ kvs, Rd H a (.dK kvs) ∧ DatK K F kvs es) ∨ ∃ kvs, Rd H a (.dT kvs) ∧ DatT K F kvs es) := by
  cases h with
  | dat h =>
    cases h with
    | dik h1 h2 => exact ⟨_, rfl, .inl ⟨_, s.rd h1, h2⟩⟩
    | dit h1 h2 => exact ⟨_, rfl, .inr ⟨_, s.rd h1, h2⟩⟩
  | dk h1 h2 => exact ⟨_, rfl, .inl ⟨_, .inl h1, h2⟩⟩
  | dt h1 h2 => exact ⟨_, rfl, .inr ⟨_, .inl h1, h2⟩⟩
theorem SeenP.up (s : Sub F H) (h : SeenP K F H x d) : Dat K H x d := by
  cases h with
  | dat h => exact h.up s
  | lst h1 h2 => exact .lst (.inl h1) (h2.up s)
  | dk h1 h2 => exact .dik (.inl h1) (DatK.mono s _ _ h2)
  | dt h1 h2 => exact .dit (.inl h1) (DatT.mono s _ _ h2)
theorem see_seen (S : Sim T F ι st H) (r : VRel T F ι st.length a x) (e : see st a = .p d) : SeenP T.K F H x d := by
  cases a with
  | p d' =>
    cases e
    cases r with
    | p r => exact .dat r
  | r k =>
    cases r with
    | r hk =>
      have hc := S.cel k st[k] (by simp [hk])
      have e' : (match st[k]? with | some c => (match seeC c with | some d => Val.p d | none => Val.r k) | none => Val.r k) = .p d := e
      have hk' : st[k]? = some st[k] := by simp [hk]
      rw [hk'] at e'
      generalize st[k] = c at hc e'
      cases c with
      | pl ds =>
        obtain ⟨_, xs, h1, h2⟩ := hc
        cases e'
        exact .lst h1 h2
      | pd es =>
        cases e'
        obtain ⟨_, ⟨kvs, h1, h2⟩ | ⟨kvs, h1, h2⟩⟩ := hc
        · exact .dk h1 h2
        · exact .dt h1 h2
      | fz d' =>
        cases e'
        exact .dat hc.2
      | lk c => exact hc.elim
      | ml _ => cases e'
      | md _ => cases e'
      | ob _ _ => cases e'
  | t _ => cases e
  | l _ => cases e
  | x _ _ => cases e
/-- what is not read through stands as it is -/
theorem see_not (e : ∀ d, see st a ≠ .p d) : see st a = a := by
  cases a with
  | r k =>
    cases h : st[k]? with
    | none => simp [see, h]
    | some c =>
      cases q : seeC c with
      | none => simp [see, h, q]
      | some d => exact absurd (by simp [see, h, q]) (e d)
  | _ => rfl
end

/-- the answer of an operation: frozen things may have come -/
def Ans (T : Tb) (F H : Hp) (ι : Nat → Addr) (n : Nat) (d : Val) (Q : VK) : Prop := ∀ F' H' z, FX F H F' H' → VRel T F' ι n d z → Q z H'
section
variable {T : Tb} {W : L2.WX} {σ : L2.St} {K : PySem.W.Frag} {F F' H H' : Hp} {ι : Nat → Addr} {n : Nat} {st : Store} {x y z : V} {a b c : Val} {d e : PyData} {Q : VK}
theorem of_ans {o : Option Val} (S : Sim T F ι st H) (p : PostG (RV T) T W σ F ι st.length (R.of o st) Q) : ∃ d, o = some d ∧ Ans T F H ι st.length d Q := by
  cases o with
  | none => exact p.elim
  | some d => exact ⟨d, rfl, fun F' H' z x r => p F' ι H' z x.next (Nat.le_refl _) (S.fx x) r⟩
theorem ok_ans {v : Val} (S : Sim T F ι st H) (p : PostG (RV T) T W σ F ι st.length (.ok v st) Q) : Ans T F H ι st.length v Q := fun F' H' z x r => p F' ι H' z x.next (Nat.le_refl _) (S.fx x) r
theorem Ans.here {v : Val} (h : Ans T F H ι n v Q) (r : VRel T F ι n v z) : Q z H := h F H z (FX.refl _ _) r
theorem Ans.dat {d : PyData} (h : Ans T F H ι n (.p d) Q) (r : Dat T.K F z d) : Q z H := h.here (.p r)
theorem Ans.int {i : Int} (h : Ans T F H ι n (.p (.int i)) Q) : Q (.int i) H := h.dat (.int i)
theorem Ans.str {i : Str} (h : Ans T F H ι n (.p (.str i)) Q) : Q (.str i) H := h.dat (.str i)
theorem Ans.bl {i : Bool} (h : Ans T F H ι n (.p (.bool i)) Q) : Q (.bl i) H := h.dat (.bl i)
theorem Ans.non (h : Ans T F H ι n (.p .none) Q) : Q .non H := h.dat .non
/-- a new list of data -/
theorem Ans.lst {ds : List PyData} {xs : List V} (h : Ans T F H ι n (.p (.list ds)) Q) (s : Sub F H) (r : DatL T.K F xs ds) : ∀ p, H p = none → Q (.ref p) (upd H p (.lst xs)) := fun p hp =>
  h _ _ _ (FX.one hp s) (.p (.lst (.inl upd_same) (r.up (FX.one (o := .lst xs) hp s).subF)))
theorem Ans.tup {ds : List PyData} {xs : List V} (h : Ans T F H ι n (.p (.tuple ds)) Q) (s : Sub F H) (r : DatL T.K F xs ds) : ∀ p, H p = none → Q (.ref p) (upd H p (.tup xs)) := fun p hp =>
  h _ _ _ (FX.one hp s) (.p (.tup upd_same (r.up (FX.one (o := .tup xs) hp s).subF)))
theorem mkL_rel {vs : List Val} {xs : List V} {p : Addr} (h : F p = some (.lst xs)) (r : VRelL T F ι n vs xs) : VRel T F ι n (mkL vs) (.ref p) := by
  unfold mkL
  cases q : unPs vs with
  | some ds => exact .p (.lst (.inl h) (r.pure q))
  | none => exact .l h r
theorem mkT_rel {vs : List Val} {xs : List V} {p : Addr} (h : F p = some (.tup xs)) (r : VRelL T F ι n vs xs) : VRel T F ι n (mkT vs) (.ref p) := by
  unfold mkT
  cases q : unPs vs with
  | some ds => exact .p (.tup h (r.pure q))
  | none => exact .t h r
/-- a new list, tuple of anything -/
theorem Ans.mkL {vs : List Val} {xs : List V} (h : Ans T F H ι n (mkL vs) Q) (s : Sub F H) (r : VRelL T F ι n vs xs) : ∀ p, H p = none → Q (.ref p) (upd H p (.lst xs)) := fun p hp =>
  h _ _ _ (FX.one hp s) (mkL_rel upd_same (r.up (FX.one (o := .lst xs) hp s).next (Nat.le_refl _)))
theorem Ans.mkT {vs : List Val} {xs : List V} (h : Ans T F H ι n (mkT vs) Q) (s : Sub F H) (r : VRelL T F ι n vs xs) : ∀ p, H p = none → Q (.ref p) (upd H p (.tup xs)) := fun p hp =>
  h _ _ _ (FX.one hp s) (mkT_rel upd_same (r.up (FX.one (o := .tup xs) hp s).next (Nat.le_refl _)))
/-- a list of any items, read now -/
theorem asL_seen {vs : List Val} (S : Sim T F ι st H) (r : VRel T F ι st.length a x) (e : asL (see st a) = some vs) : ∃ p xs, x = .ref p ∧ Rd H p (.lst xs) ∧ VRelL T F ι st.length vs xs := by
  by_cases q : ∃ d, see st a = .p d
  · obtain ⟨d, q⟩ := q
    have h := see_seen S r q
    rw [q] at e
    cases d with
    | list ds =>
      cases e
      obtain ⟨p, xs, h1, h2, h3⟩ := h.list S.sub
      exact ⟨p, xs, h1, h2, .ofDat h3⟩
    | _ => cases e
  · have q2 := see_not (fun d hd => q ⟨d, hd⟩)
    rw [q2] at e
    cases a with
    | l ws =>
      cases e
      cases r with
      | l h1 h2 => exact ⟨_, _, rfl, S.sub.rd (.inl h1), h2⟩
    | p d => exact absurd ⟨d, rfl⟩ q
    | _ => cases e
end

theorem SZ_eq : SZ = sizeLine := by rw [sizeLine_eq]; rfl
section
variable {X : Cx} {pins : List (Addr × Obj)} {σ : L2.St} {H : Hp} {s : Shared} {l : Addr} {xs : List V}
theorem lstR (I : Inv X pins σ H s) (h : Rd H l (.lst xs)) : xs.length ≤ sizeLine ∧ ∃ (its : List Value) (n : Nat), Vals xs its ∧ xs.length = its.length ∧ s.heap.get? l = some { cls := .type "list", data := .seq its.toArray n } := by
  obtain ⟨z, its, n, r, e⟩ := h.ok I.hok
  exact ⟨z, its, n, r, r.length, e⟩
def rCatR : R2 := fun x y H Q => ∃ l b xs zs, x = .ref l ∧ y = .ref b ∧ Rd H l (.lst xs) ∧ Rd H b (.lst zs) ∧ xs.length + zs.length ≤ sizeLine ∧ ∀ p, H p = none → Q (.ref p) (upd H p (.lst (xs ++ zs)))
theorem op_catR : OpR X (binaryOp .Add) rCatR := by
  intro pins s σ H x y v u Q I rx ry h
  obtain ⟨l, b, xs, zs, rfl, rfl, hH, hB, hz, q⟩ := h
  cases rx
  cases ry
  obtain ⟨z, its, n, r, hl, e⟩ := lstR I hH
  obtain ⟨z2, its2, n2, r2, hl2, e2⟩ := lstR I hB
  refine PySem.P.add_list e e2 ?_ (by rw [List.size_toArray, List.size_toArray]; omega)
  have ea : its.toArray ++ its2.toArray = (its ++ its2).toArray := by simp
  rw [ea]
  exact ⟨.ref _, _, I.lnew (t' := s.toks) (r.append r2) (by rw [List.length_append]; omega), rfl, q _ I.fresh⟩
theorem op_repR : OpR X (binaryOp .Mult) (fun x y H Q => ∃ l k xs, x = .ref l ∧ y = .int k ∧ Rd H l (.lst xs) ∧ -(2 ^ 63) ≤ k ∧ k < 2 ^ 63 ∧ xs.length * k.toNat ≤ sizeLine ∧
    ∀ p, H p = none → Q (.ref p) (upd H p (.lst (List.replicate k.toNat xs).flatten))) := by
  intro pins s σ H x y v u Q I rx ry h
  obtain ⟨l, k, xs, rfl, rfl, hH, h1, h2, hz, q⟩ := h
  cases rx
  obtain ⟨t, rfl⟩ := ry
  obtain ⟨z, its, n, r, hl, e⟩ := lstR I hH
  have hlen : its.toArray.size * k.toNat ≤ sizeLine := by rw [List.size_toArray, ← hl]; exact hz
  have hcap : ¬ its.toArray.size * k.toNat > (2 ^ 63 - 1) / 8 := by
    have : (sizeLine : Nat) ≤ (2 ^ 63 - 1) / 8 := by decide
    omega
  have hfit : ¬ (!Builtin.List.listFitsIndex k) = true := by
    rw [fitsIndex_both h1 h2]
    exact Bool.false_ne_true
  have hlong : ¬ Builtin.List.listTooLong (its.toArray.size * k.toNat) = true := by
    rw [notLongL hlen]
    exact Bool.false_ne_true
  have hnew : List.foldl (fun x1 x2 => x1 ++ x2) #[] (List.replicate (if its.toArray.isEmpty = true then 0 else k.toNat) its.toArray) = (List.replicate k.toNat its).flatten.toArray := by
    have f0 : ∀ m : Nat, List.foldl (fun x1 x2 => x1 ++ x2) #[] (List.replicate m its.toArray) = (List.replicate m its).flatten.toArray := fun m => by
      have := foldl_rep its m []
      rw [List.nil_append] at this
      exact this
    rw [f0]
    cases its with
    | nil => simp
    | cons a r' => rw [if_neg (by simp)]
  refine wpAny_binaryOp_repeat_ref (T := "list") (U := "int") (by decide) ⟨_, e, rfl⟩ (fun s' => typeIs_int s' k t) noFill_list_mul F.fills_int_mul F.slot_int_rmul repeat_list F.slot_int_index.lookup
    (call_meets F.slot_int_rmul (typeIs_int s k t) F.entry_int_rmul (F.args_int_rmul_2 _ _) (int___rmul___int_list k t l its.toArray n)
      ⟨e, rfl, ⟨_, e, rfl⟩, call_meets F.slot_list_mul ⟨_, e, rfl⟩ F.entry_list_mul (F.args_list_mul_2 _ _) (AutoListH.list___mul___list_int_3 l its.toArray n k t hfit hcap hlong) ⟨e, ?_⟩⟩)
  rw [hnew]
  exact ⟨.ref _, _, I.lnew (t' := s.toks) (r.rep k.toNat) (by rw [PyProof.Rows.lm_len_rep_flat, Nat.mul_comm]; exact hz), rfl, q _ I.fresh⟩
theorem op_mulS : OpR X (binaryOp .Mult) (fun x y H Q => ∃ z k, x = .str z ∧ y = .int k ∧ 0 ≤ k ∧ k < 2 ^ 38 ∧ z.length * k.toNat ≤ sizeLine ∧ z.length < 2 ^ 24 ∧ Q (.str ⟨(List.replicate k.toNat z.cps.toList).flatten.toArray⟩) H) := by
  intro pins s σ H x y v u Q I rx ry h
  obtain ⟨z, k, rfl, rfl, h0, h2, hz, hz2, q⟩ := h
  obtain ⟨t, rfl⟩ := rx
  obtain ⟨t', rfl⟩ := ry
  have hs : sizeLine = 16777216 := sizeLine_eq
  have hfold : ∀ (m : Nat) (acc : List Nat), List.foldl (fun x1 x2 => x1 ++ x2) acc.toArray (List.replicate m z.cps) = (acc ++ (List.replicate m z.cps.toList).flatten).toArray := by
    intro m
    induction m with
    | zero => intro acc; simp
    | succ m ih =>
      intro acc
      rw [List.replicate_succ, List.foldl_cons, List.replicate_succ, List.flatten_cons]
      have e : acc.toArray ++ z.cps = (acc ++ z.cps.toList).toArray := by
        cases z with | mk c => cases c; simp
      rw [e, ih]
      simp
  refine PySem.P.mul_str (by
    rw [decide_eq_false (show ¬ k < -(2 ^ 63 : Int) by omega), decide_eq_false (show ¬ k ≥ 2 ^ 63 by omega)]; rfl) (fun hk _ => ?_) (fun hk _ => ?_) ?_
  · have h5 : (33554431 : Int) ≤ (2 ^ 63 - 1) / k := by
      rw [Int.le_ediv_iff_mul_le (by omega)]
      omega
    omega
  · show decide (_ > sizeLine) = false
    exact decide_eq_false (by omega)
  · have emp : (⟨(List.replicate k.toNat z.cps.toList).flatten.toArray⟩ : Str) = ⟨(List.replicate k.toNat z.cps).foldl (· ++ ·) #[]⟩ := by
      have := hfold k.toNat []
      rw [List.nil_append] at this
      show Str.mk _ = Str.mk _
      exact congrArg Str.mk this.symm
    rw [emp] at q
    have fin : ∀ (zz : Str) (tk : Nat) (tt : Tok), Q (.str zz) H → EP X pins σ Q (.str zz tt) { s with toks := tk } := fun zz tk tt q => ⟨.str zz, H, I.tok _, ⟨_, rfl⟩, q⟩
    by_cases c1 : k < 1
    · rw [if_pos c1]
      have e : k.toNat = 0 := by omega
      rw [e] at q
      refine ⟨by decide, ?_⟩
      exact fin _ _ _ q
    · rw [if_neg c1]
      by_cases c2 : (k == 1 || z.length == 0) = true
      · rw [if_pos c2]
        have e2 : (⟨(List.replicate k.toNat z.cps).foldl (· ++ ·) #[]⟩ : Str) = z := by
          rw [← emp]
          simp only [Bool.or_eq_true, beq_iff_eq] at c2
          rcases c2 with rfl | c2
          · cases z; simp
          · have hz0 : z.cps = #[] := Array.eq_empty_of_size_eq_zero c2
            cases z with
            | mk c =>
              have hz0 : c = #[] := hz0
              subst hz0
              simp
        rw [e2] at q
        exact ⟨.str z, H, I, ⟨_, rfl⟩, q⟩
      · rw [if_neg c2]
        refine ⟨?_, fin _ _ _ q⟩
        have e3 : ((List.replicate k.toNat z.cps).foldl (· ++ ·) #[] : Array Nat).size = k.toNat * z.length := by
          have := congrArg (fun s : Str => s.cps.size) emp
          simp only at this
          rw [← this, List.size_toArray, PyProof.Rows.lm_len_rep_flat]
          rfl
        show Str.length _ ≤ sizeLine
        show Array.size _ ≤ sizeLine
        rw [e3, Nat.mul_comm]
        exact hz
end
end Vm
end

section
/-! V4: operators and comparisons, as the evaluator has them. -/
namespace Vm
open PySem L2 PySem.Spec PyProof.Rows

def opB : BinO → Operator
  | .add => .Add
  | .sub => .Sub
  | .mul => .Mult
  | .fdiv => .FloorDiv
  | .mod => .Mod
  | .pow => .Pow
def opC : CmpO → CmpOp
  | .eq => .Eq
  | .ne => .NotEq
  | .lt => .Lt
  | .le => .LtE
  | .gt => .Gt
  | .ge => .GtE
  | .is => .Is
  | .isNot => .IsNot
  | .isin => .In
  | .notin => .NotIn
def rBin (T : Tb) (o : BinO) : R2 := fun x y H Q => ∃ F ι st a b d, Sim T F ι st H ∧ VRel T F ι st.length a x ∧ VRel T F ι st.length b y ∧ binV o (see st a) (see st b) = some d ∧ Ans T F H ι st.length d Q
section
variable {X : Cx} {T : Tb} {K : PySem.W.Frag} {F H : Hp} {ι : Nat → Addr} {st : Store} {x y : V} {a b : Val} {Q : VK}
theorem bin_data {o : BinO} {dx dy d : PyData} (s : Sub F H) (h1 : SeenP T.K F H x dx) (h2 : SeenP T.K F H y dy) (e : binD o dx dy = some d) (A : Ans T F H ι st.length (.p d) Q) (hK : X.K = T.K) :
    ∃ r, OpR X (binaryOp (opB o)) r ∧ r x y H Q := by
  unfold binD at e
  split at e
  · cases e
    cases h1.int; cases h2.int
    exact ⟨_, op_add, _, _, rfl, rfl, A.int⟩
  · split at e
    · cases e
      cases h1.str; cases h2.str
      rename_i hz
      exact ⟨_, op_add_str, _, _, rfl, rfl, by rw [← SZ_eq]; exact hz, A.str⟩
    · cases e
  · split at e
    · cases e
      rename_i hz
      obtain ⟨p, xs, rfl, r1, l1⟩ := h1.list s
      obtain ⟨p', xs', rfl, r2, l2⟩ := h2.list s
      exact ⟨_, op_catR, p, p', xs, xs', rfl, rfl, r1, r2, by rw [l1.length, l2.length, ← SZ_eq]; exact hz, A.lst s (l1.append l2)⟩
    · cases e
  · split at e
    · cases e
      rename_i hz
      obtain ⟨p, xs, rfl, r1, q1, l1⟩ := h1.tup s
      obtain ⟨p', xs', rfl, r2, q2, l2⟩ := h2.tup s
      refine ⟨_, op_catA, p, p', xs, xs', rfl, rfl, SqT.of r1, SqT.of r2, by rw [l1.length, l2.length, ← SZ_eq]; exact hz, fun z => ?_, fun _ z => ?_, fun _ _ => A.tup s (l1.append l2)⟩
      · subst z
        cases l1
        exact A.dat (.tup q2 l2)
      · subst z
        cases l2
        rw [List.append_nil] at A
        exact A.dat (.tup q1 l1)
    · cases e
  · cases e
    cases h1.int; cases h2.int
    exact ⟨_, op_sub, _, _, rfl, rfl, A.int⟩
  · split at e
    · cases e
      cases h1.int; cases h2.int
      rename_i hz
      exact ⟨_, op_mul, _, _, rfl, rfl, hz, A.int⟩
    · cases e
  · split at e
    · cases e
      rename_i hz
      cases h2.int
      obtain ⟨p, xs, rfl, r1, l1⟩ := h1.list s
      refine ⟨_, op_repR, p, _, xs, rfl, rfl, r1, hz.1, hz.2.1, by rw [l1.length, ← SZ_eq]; exact hz.2.2, A.lst s ?_⟩
      have rep : ∀ m : Nat, DatL T.K F (List.replicate m xs).flatten (List.replicate m _).flatten := fun m => by
        induction m with
        | zero => exact .nil
        | succ m ih =>
          rw [List.replicate_succ, List.replicate_succ, List.flatten_cons, List.flatten_cons]
          exact l1.append ih
      exact rep _
    · cases e
  · split at e
    · cases e
      rename_i hz
      cases h1.str; cases h2.int
      exact ⟨_, op_mulS, _, _, rfl, rfl, hz.1, hz.2.1, by rw [← SZ_eq]; exact hz.2.2.1, hz.2.2.2, A.str⟩
    · cases e
  · split at e
    · cases e
      rename_i hz
      cases h1.int; cases h2.int
      exact ⟨_, op_fdiv, _, _, rfl, rfl, hz, A.int⟩
    · cases e
  · split at e
    · cases e
      rename_i hz
      cases h1.int; cases h2.int
      exact ⟨_, op_mod, _, _, rfl, rfl, hz, A.int⟩
    · cases e
  · split at e
    · cases e
      rename_i hz
      cases h1.int; cases h2.int
      exact ⟨_, op_pow, _, _, rfl, rfl, hz, A.int⟩
    · cases e
  · cases e
theorem op_bin {o : BinO} (hK : X.K = T.K) : OpR X (binaryOp (opB o)) (rBin T o) := opr_by fun x y H Q h => by
  obtain ⟨F, ι, st, a, b, d, S, ra, rb, e, A⟩ := h
  unfold binV at e
  split at e
  · rename_i dx dy e1 e2
    cases q : binD o dx dy with
    | none => rw [q] at e; cases e
    | some dd =>
      rw [q] at e
      cases e
      exact bin_data S.sub (see_seen S ra e1) (see_seen S rb e2) q A hK
  · split at e
    · rename_i xs ys e1 e2
      split at e
      · cases e
        rename_i hz
        obtain ⟨p, us, rfl, r1, l1⟩ := asL_seen S ra e1
        obtain ⟨p', us', rfl, r2, l2⟩ := asL_seen S rb e2
        exact ⟨_, op_catR, p, p', us, us', rfl, rfl, r1, r2, by rw [← l1.length, ← l2.length, ← SZ_eq]; exact hz, A.mkL S.sub (l1.append l2)⟩
      · cases e
    · cases e
end

/-! ### comparisons -/
def rCmp (T : Tb) (o : CmpO) : R2 := fun x y H Q => ∃ F ι st a b d, Sim T F ι st H ∧ VRel T F ι st.length a x ∧ VRel T F ι st.length b y ∧ cmpV o (see st a) (see st b) = some d ∧ Q (.bl d) H
section
variable {X : Cx} {T : Tb} {K : PySem.W.Frag} {F H : Hp} {ι : Nat → Addr} {st : Store} {x y : V} {a b : Val} {Q : VK}
theorem flat2_eq {dx dy : PyData} (h1 : SeenP T.K F H x dx) (h2 : SeenP T.K F H y dy) (e : flat2 dx dy = true) : scal x y = true ∧ decide (x = y) = PyData.eqv dx dy := by
  unfold flat2 at e
  split at e
  · cases h1.non; cases h2.non; exact ⟨rfl, rfl⟩
  · cases h1.non; cases h2.int; exact ⟨rfl, rfl⟩
  · cases h1.int; cases h2.non; exact ⟨rfl, rfl⟩
  · cases h1.non; cases h2.bl; exact ⟨rfl, rfl⟩
  · cases h1.bl; cases h2.non; exact ⟨rfl, rfl⟩
  · cases h1.non; cases h2.str; exact ⟨rfl, rfl⟩
  · cases h1.str; cases h2.non; exact ⟨rfl, rfl⟩
  · cases h1.int; cases h2.int; exact ⟨rfl, dec_int⟩
  · cases h1.bl; cases h2.bl; exact ⟨rfl, dec_bl⟩
  · cases h1.str; cases h2.str; exact ⟨rfl, dec_str⟩
  · cases h1.int; cases h2.str; exact ⟨rfl, rfl⟩
  · cases h1.str; cases h2.int; exact ⟨rfl, rfl⟩
  · cases h1.bl; cases h2.str; exact ⟨rfl, rfl⟩
  · cases h1.str; cases h2.bl; exact ⟨rfl, rfl⟩
  · cases e
theorem can_of {d : PyData} (h : SeqAt.shaped d = true) : d.canLay0 = true := SeqAt.canLay_of_shaped h

theorem op_eqLenL (hu : X.A.units < cLine) : OpR X (compareOp .Eq) (fun x y H Q => ∃ a b xs zs, x = .ref a ∧ y = .ref b ∧ Rd H a (.lst xs) ∧ Rd H b (.lst zs) ∧ xs.length ≠ zs.length ∧ Q (.bl false) H) := by
  intro pins s σ H x y v u Q I rx ry h
  obtain ⟨a, b, xs, zs, rfl, rfl, h1, h2, hz, q⟩ := h
  cases rx
  cases ry
  obtain ⟨_, its, n, r, hl, e⟩ := lstR I h1
  obtain ⟨_, its2, n2, r2, hl2, e2⟩ := lstR I h2
  refine SeqAt.eq_list_lengthsAt (items := its.toArray) (items2 := its2.toArray) ⟨_, e, rfl, n, rfl⟩ ⟨_, e2, rfl, n2, rfl⟩ ?_ hu ⟨.bl false, H, I, rfl, q⟩
  simp only [List.size_toArray, bne_iff_ne, ne_eq]
  omega
theorem op_neLenL (hu : X.A.units < cLine) : OpR X (compareOp .NotEq) (fun x y H Q => ∃ a b xs zs, x = .ref a ∧ y = .ref b ∧ Rd H a (.lst xs) ∧ Rd H b (.lst zs) ∧ xs.length ≠ zs.length ∧ Q (.bl true) H) := by
  intro pins s σ H x y v u Q I rx ry h
  obtain ⟨a, b, xs, zs, rfl, rfl, h1, h2, hz, q⟩ := h
  cases rx
  cases ry
  obtain ⟨_, its, n, r, hl, e⟩ := lstR I h1
  obtain ⟨_, its2, n2, r2, hl2, e2⟩ := lstR I h2
  refine SeqAt.RcNeAt.lists_lengths (items := its.toArray) (items2 := its2.toArray) ⟨_, e, rfl, n, rfl⟩ ⟨_, e2, rfl, n2, rfl⟩ ?_ hu _ _ _ _ ⟨.bl true, H, I, rfl, q⟩
  simp only [List.size_toArray, bne_iff_ne, ne_eq]
  omega
theorem op_eqNilT (hu : X.A.units < cLine) : OpR X (compareOp .Eq) (fun x y H Q => ∃ a b xs zs, x = .ref a ∧ y = .ref b ∧ SqT X.K H a xs ∧ SqT X.K H b zs ∧ (xs = [] ∧ zs ≠ [] ∨ xs ≠ [] ∧ zs = []) ∧ Q (.bl false) H) := by
  intro pins s σ H x y v u Q I rx ry h
  obtain ⟨a, b, xs, zs, rfl, rfl, h1, h2, hz, q⟩ := h
  cases rx
  cases ry
  obtain ⟨its, r, e, _⟩ := I.tuple h1
  obtain ⟨its2, r2, e2, _⟩ := I.tuple h2
  have l1 := r.length
  have l2 := r2.length
  have hm : min its.toArray.size its2.toArray.size = 0 := by
    simp only [List.size_toArray]
    rcases hz with ⟨rfl, _⟩ | ⟨_, rfl⟩
    · have : its.length = 0 := by simpa using l1.symm
      omega
    · have : its2.length = 0 := by simpa using l2.symm
      omega
  have hne : (its.toArray.size == its2.toArray.size) = false := by
    simp only [List.size_toArray, beq_eq_false_iff_ne, ne_eq]
    rcases hz with ⟨rfl, hz⟩ | ⟨hz, rfl⟩
    · have : its.length = 0 := by simpa using l1.symm
      have := List.length_pos_iff.mpr hz
      omega
    · have : its2.length = 0 := by simpa using l2.symm
      have := List.length_pos_iff.mpr hz
      omega
  refine SeqAt.eq_tupleAt (items := its.toArray) (items2 := its2.toArray) (e := fun _ => true) e e2 hu (fun j j1 j2 => absurd j1 (by have := hm; omega)) ?_
  rw [hm, hne]
  exact ⟨.bl false, H, I, rfl, q⟩
theorem op_neNilT (hu : X.A.units < cLine) : OpR X (compareOp .NotEq) (fun x y H Q => ∃ a b xs zs, x = .ref a ∧ y = .ref b ∧ SqT X.K H a xs ∧ SqT X.K H b zs ∧ (xs = [] ∧ zs ≠ [] ∨ xs ≠ [] ∧ zs = []) ∧ Q (.bl true) H) := by
  intro pins s σ H x y v u Q I rx ry h
  obtain ⟨a, b, xs, zs, rfl, rfl, h1, h2, hz, q⟩ := h
  cases rx
  cases ry
  obtain ⟨its, r, e, _⟩ := I.tuple h1
  obtain ⟨its2, r2, e2, _⟩ := I.tuple h2
  have l1 := r.length
  have l2 := r2.length
  have hm : min its.toArray.size its2.toArray.size = 0 := by
    simp only [List.size_toArray]
    rcases hz with ⟨rfl, _⟩ | ⟨_, rfl⟩
    · have : its.length = 0 := by simpa using l1.symm
      omega
    · have : its2.length = 0 := by simpa using l2.symm
      omega
  have hne : (its.toArray.size == its2.toArray.size) = false := by
    simp only [List.size_toArray, beq_eq_false_iff_ne, ne_eq]
    rcases hz with ⟨rfl, hz⟩ | ⟨hz, rfl⟩
    · have : its.length = 0 := by simpa using l1.symm
      have := List.length_pos_iff.mpr hz
      omega
    · have : its2.length = 0 := by simpa using l2.symm
      have := List.length_pos_iff.mpr hz
      omega
  refine SeqAt.RcNeAt.tuples (items := its.toArray) (items2 := its2.toArray) (e := fun _ => true) e e2 hu (fun j j1 j2 => absurd j1 (by have := hm; omega)) _ _ _ _ ?_
  rw [hm, hne]
  exact ⟨.bl true, H, I, rfl, q⟩

/-- == and != of data -/
theorem eq_data {dx dy : PyData} {d : Bool} (s : Sub F H) (h1 : SeenP T.K F H x dx) (h2 : SeenP T.K F H y dy) (e : eqD dx dy = some d) (hK : X.K = T.K) (hu : X.A.units + 100 < cLine) :
    (∃ r, OpR X (compareOp .Eq) r ∧ ∀ Q : VK, Q (.bl d) H → r x y H Q) ∧ ∃ r, OpR X (compareOp .NotEq) r ∧ ∀ Q : VK, Q (.bl (!d)) H → r x y H Q := by
  unfold eqD at e
  split at e
  · cases e
    rename_i hf
    obtain ⟨k1, k2⟩ := flat2_eq h1 h2 hf
    rw [← k2]
    exact ⟨⟨_, op_eq, fun Q q => ⟨k1, q⟩⟩, ⟨_, op_ne, fun Q q => ⟨k1, q⟩⟩⟩
  · split at e
    · cases e
      rename_i hs
      have p1 := Dat.dp _ _ (can_of hs.1) (h1.up s)
      have p2 := Dat.dp _ _ (can_of hs.2) (h2.up s)
      rw [← hK] at p1 p2
      exact ⟨⟨_, op_eqD (by omega), fun Q q => ⟨_, _, p1, p2, hs.1, hs.2, q⟩⟩, ⟨_, op_neD (by omega), fun Q q => ⟨_, _, p1, p2, hs.1, hs.2, q⟩⟩⟩
    · split at e
      · cases e
        obtain ⟨p, xs, rfl, r1, _, l1⟩ := h1.tup s
        obtain ⟨p', xs', rfl, r2, _, l2⟩ := h2.tup s
        cases l1
        have hn : xs' ≠ [] := by rintro rfl; cases l2
        exact ⟨⟨_, op_eqNilT (by omega), fun Q q => ⟨_, _, _, _, rfl, rfl, SqT.of r1, SqT.of r2, .inl ⟨rfl, hn⟩, q⟩⟩, ⟨_, op_neNilT (by omega), fun Q q => ⟨_, _, _, _, rfl, rfl, SqT.of r1, SqT.of r2, .inl ⟨rfl, hn⟩, q⟩⟩⟩
      · cases e
        obtain ⟨p, xs, rfl, r1, _, l1⟩ := h1.tup s
        obtain ⟨p', xs', rfl, r2, _, l2⟩ := h2.tup s
        cases l2
        have hn : xs ≠ [] := by rintro rfl; cases l1
        exact ⟨⟨_, op_eqNilT (by omega), fun Q q => ⟨_, _, _, _, rfl, rfl, SqT.of r1, SqT.of r2, .inr ⟨hn, rfl⟩, q⟩⟩, ⟨_, op_neNilT (by omega), fun Q q => ⟨_, _, _, _, rfl, rfl, SqT.of r1, SqT.of r2, .inr ⟨hn, rfl⟩, q⟩⟩⟩
      · cases e
        obtain ⟨p, xs, rfl, r1, l1⟩ := h1.list s
        obtain ⟨p', xs', rfl, r2, l2⟩ := h2.list s
        have e1 := l1.length
        have e2 := l2.length
        have hn : xs.length ≠ xs'.length := by simp only [List.length_nil, List.length_cons] at e1 e2; omega
        exact ⟨⟨_, op_eqLenL (by omega), fun Q q => ⟨_, _, _, _, rfl, rfl, r1, r2, hn, q⟩⟩, ⟨_, op_neLenL (by omega), fun Q q => ⟨_, _, _, _, rfl, rfl, r1, r2, hn, q⟩⟩⟩
      · cases e
        obtain ⟨p, xs, rfl, r1, l1⟩ := h1.list s
        obtain ⟨p', xs', rfl, r2, l2⟩ := h2.list s
        have e1 := l1.length
        have e2 := l2.length
        have hn : xs.length ≠ xs'.length := by simp only [List.length_nil, List.length_cons] at e1 e2; omega
        exact ⟨⟨_, op_eqLenL (by omega), fun Q q => ⟨_, _, _, _, rfl, rfl, r1, r2, hn, q⟩⟩, ⟨_, op_neLenL (by omega), fun Q q => ⟨_, _, _, _, rfl, rfl, r1, r2, hn, q⟩⟩⟩
      · cases e

theorem flatV_of {dx : PyData} (h : SeenP T.K F H x dx) (f : flatD dx = true) : flatV x = true := by
  cases dx with
  | none => cases h.non; rfl
  | bool b => cases h.bl; rfl
  | int i => cases h.int; rfl
  | str z => cases h.str; rfl
  | _ => cases f
theorem flat_dat {dx : PyData} (h : Dat K F x dx) (f : flatD dx = true) : flatV x = true := by
  cases dx with
  | none => cases h; rfl
  | bool b => cases h; rfl
  | int i => cases h; rfl
  | str z => cases h; rfl
  | _ => cases f
theorem eqv_flat {dx dy : PyData} (h1 : Dat K F x dx) (h2 : Dat K F y dy) (f1 : flatD dx = true) (f2 : flatD dy = true) : eqV x y = PyData.eqv dx dy := by
  cases dx with
  | none =>
    cases h1
    cases dy with
    | none => cases h2; rfl
    | bool _ => cases h2; rfl
    | int _ => cases h2; rfl
    | str _ => cases h2; rfl
    | _ => cases f2
  | bool _ =>
    cases h1
    cases dy with
    | none => cases h2; rfl
    | bool _ => cases h2; rfl
    | int _ => cases h2; rfl
    | str _ => cases h2; rfl
    | _ => cases f2
  | int _ =>
    cases h1
    cases dy with
    | none => cases h2; rfl
    | bool _ => cases h2; rfl
    | int _ => cases h2; rfl
    | str _ => cases h2; rfl
    | _ => cases f2
  | str _ =>
    cases h1
    cases dy with
    | none => cases h2; rfl
    | bool _ => cases h2; rfl
    | int _ => cases h2; rfl
    | str _ => cases h2; rfl
    | _ => cases f2
  | _ => cases f1
theorem inV_of {dx : PyData} (h1 : Dat K F x dx) (f1 : flatD dx = true) : ∀ {xs : List V} {ds : List PyData}, DatL K F xs ds → ds.all flatD = true → xs.all flatV = true ∧ inV x xs = ds.any fun z => PyData.eqv z dx
  | _, _, .nil, _ => ⟨rfl, rfl⟩
  | _, _, .cons h2 h3, f => by
    rw [List.all_cons, Bool.and_eq_true] at f
    obtain ⟨k1, k2⟩ := inV_of h1 f1 h3 f.2
    refine ⟨?_, ?_⟩
    · rw [List.all_cons, flat_dat h2 f.1, k1]; rfl
    · rw [List.any_cons, ← k2, ← eqv_flat h2 h1 f.1 f1]
      rfl
theorem SeenP.flat {dx : PyData} (h : SeenP K F H x dx) (f : flatD dx = true) : Dat K F x dx := by
  cases h with
  | dat h => exact h
  | lst _ _ => cases f
  | dk _ _ => cases f
  | dt _ _ => cases f
theorem keyD_eqv : ∀ (k k' : Key), PyData.eqv (keyD k) (keyD k') = decide (k = k')
  | .inl a, .inl b => (key_ll a b).symm
  | .inr a, .inr b => by
    rw [key_rr]
    show (a == b) = decide (a = b)
    rfl
  | .inl a, .inr b => by rw [key_lr]; rfl
  | .inr a, .inl b => by rw [key_rl]; rfl
theorem keyD_eqvAll : ∀ (k k' : List Key), PyData.eqvAll (k.map keyD) (k'.map keyD) = decide (k = k')
  | [], [] => rfl
  | a :: k, [] => by simp [PyData.eqvAll]
  | [], b :: k' => by simp [PyData.eqvAll]
  | a :: k, b :: k' => by
    rw [List.map_cons, List.map_cons]
    show (PyData.eqv (keyD a) (keyD b) && PyData.eqvAll (k.map keyD) (k'.map keyD)) = _
    rw [keyD_eqv, keyD_eqvAll k k']
    by_cases h1 : a = b <;> by_cases h2 : k = k' <;> simp [h1, h2]
/-- a key as data is a key -/
theorem key1_of {d : PyData} (h : Dat K F x d) (k : isKey1 d = true) : ∃ q : Key, x = kV q ∧ d = keyD q := by
  cases d with
  | int i => cases h; exact ⟨.inl i, rfl, rfl⟩
  | str z => cases h; exact ⟨.inr z, rfl, rfl⟩
  | _ => cases k
theorem keys_of : ∀ {xs : List V} {ds : List PyData}, DatL K F xs ds → ds.all isKey1 = true → ∃ q : List Key, xs = q.map kV ∧ ds = q.map keyD
  | _, _, .nil, _ => ⟨[], rfl, rfl⟩
  | _, _, .cons h1 h2, k => by
    rw [List.all_cons, Bool.and_eq_true] at k
    obtain ⟨q, rfl, rfl⟩ := key1_of h1 k.1
    obtain ⟨qs, rfl, rfl⟩ := keys_of h2 k.2
    exact ⟨q :: qs, rfl, rfl⟩

/-- what a dict answers at a key -/
theorem DatK.any (k : Key) : ∀ {kvs : List (Key × V)} {es : List (PyData × PyData)}, DatK K F kvs es → (kvs.any fun q => decide (q.1 = k)) = es.any fun q => PyData.eqv q.1 (keyD k)
  | _, _, .nil => rfl
  | _, _, .cons _ h => by
    rw [List.any_cons, List.any_cons, DatK.any k h, keyD_eqv]
theorem DatT.any (k : List Key) : ∀ {kvs : List (List Key × V)} {es : List (PyData × PyData)}, DatT K F kvs es → (kvs.any fun q => decide (q.1 = k)) = es.any fun q => PyData.eqv q.1 (.tuple (k.map keyD))
  | _, _, .nil => rfl
  | _, _, .cons _ h => by
    rw [List.any_cons, List.any_cons, DatT.any k h]
    show _ = (PyData.eqvAll _ _ || _)
    rw [keyD_eqvAll]
theorem valV_isSome {κ : Type} [DecidableEq κ] (kvs : List (κ × V)) (k : κ) : (valV kvs k).isSome = kvs.any fun q => decide (q.1 = k) := (valV_any k kvs).symm
/-- a key of the other kind is not there -/
theorem DatK.anyT (k : List Key) : ∀ {kvs : List (Key × V)} {es : List (PyData × PyData)}, DatK K F kvs es → (es.any fun q => PyData.eqv q.1 (.tuple (k.map keyD))) = false
  | _, _, .nil => rfl
  | _, _, .cons (k := kk) _ h => by
    rw [List.any_cons, DatK.anyT k h]
    cases kk <;> rfl
theorem DatT.anyK (k : Key) : ∀ {kvs : List (List Key × V)} {es : List (PyData × PyData)}, DatT K F kvs es → (es.any fun q => PyData.eqv q.1 (keyD k)) = false
  | _, _, .nil => rfl
  | _, _, .cons (k := kk) _ h => by
    rw [List.any_cons, DatT.anyK k h]
    cases k <;> rfl
end
/-- an empty dict is asked by a key of the other kind -/
def DEmp (H : Hp) (a : Addr) (y : V) : Prop := (Rd H a (.dK []) ∧ ∃ (k : List Key) (b : Addr), y = .ref b ∧ H b = some (.tup (k.map kV))) ∨ (Rd H a (.dT []) ∧ ∃ k : Key, y = kV k)
section
variable {X : Cx} {pins : List (Addr × Obj)} {σ : L2.St} {H : Hp} {s : Shared} {a : Addr} {y v : V} {u : Value} {A : Around} {E : Value → Shared → Prop}
theorem emp_T (I : Inv X pins σ H s) (e : Rd H a (.dK [])) : (a == sysModules) = false ∧ s.heap.DictOfH (tupleKind (mixKind X.prog X.w)) a [] := by
  obtain ⟨z, hd, vs, rel, o, es, ep, h1, h2, h3, h4, h5, h6⟩ := dk_rd I.hok e
  cases rel
  have e0 : es.toList = [] := by
    cases q : es.toList with
    | nil => rfl
    | cons x r => rw [q] at h5; cases h5
  exact ⟨hd, o, es, ep, h1, h2, h3, by rw [e0]; rfl, fun x hx => (by cases hx), List.Pairwise.nil⟩
theorem emp_K (I : Inv X pins σ H s) (e : Rd H a (.dT [])) : (a == sysModules) = false ∧ s.heap.DictOf (mixKind X.prog X.w) a [] := by
  obtain ⟨z, hd, xs, rel, o, es, ep, h1, h2, h3, h4, h5, h6⟩ := dt_rd I.hok e
  cases rel
  have e0 : es = #[] := by
    cases es with
    | mk l => cases l with
      | nil => rfl
      | cons x r => simp at h4
  subst e0
  exact ⟨hd, o, #[], ep, h1, h2, h3, by intro x hx; simp at hx, .nil, List.Pairwise.nil⟩
end
/-- in, not in of a dict by values -/
def rDIn (neg : Bool) : R2 := fun y x H Q => ∃ a o, x = .ref a ∧ (DGet H a y o ∨ (DEmp H a y ∧ o = none)) ∧ Q (.bl (if neg then !o.isSome else o.isSome)) H
theorem op_dIn {X : Cx} (hu : X.A.units + 1 < cLine) : OpR X (compareOp .In) (rDIn false) := by
  intro pins s σ H y x u v Q I ry rx h
  obtain ⟨a, o, rfl, g, q⟩ := h
  cases rx
  rcases g with g | ⟨⟨e, k, b, rfl, eb⟩ | ⟨e, k, rfl⟩, rfl⟩
  · exact d_in hu I g ry fun s' I' => ⟨.bl _, H, I', rfl, q⟩
  · obtain ⟨hd, dd⟩ := emp_T I e
    cases ry
    exact wpAny_in_heap (tupleKind_room_in1 hu) (key_of I.hok eb) hd dd ⟨.bl _, H, I.tok _, rfl, q⟩
  · obtain ⟨hd, dd⟩ := emp_K I e
    exact wpAny_in_of (kV_is ry) hd dd.mapOf ⟨.bl _, H, I.tok _, rfl, q⟩
theorem op_dNotIn {X : Cx} (hu : X.A.units + 1 < cLine) : OpR X (compareOp .NotIn) (rDIn true) := by
  intro pins s σ H y x u v Q I ry rx h
  obtain ⟨a, o, rfl, g, q⟩ := h
  cases rx
  rcases g with g | ⟨⟨e, k, b, rfl, eb⟩ | ⟨e, k, rfl⟩, rfl⟩
  · exact d_notIn hu I g ry fun s' I' => ⟨.bl _, H, I', rfl, q⟩
  · obtain ⟨hd, dd⟩ := emp_T I e
    cases ry
    exact wpAny_notIn_heap (tupleKind_room_in1 hu) (key_of I.hok eb) hd dd ⟨.bl _, H, I.tok _, rfl, q⟩
  · obtain ⟨hd, dd⟩ := emp_K I e
    exact wpAny_notIn_of (kV_is ry) hd dd.mapOf ⟨.bl _, H, I.tok _, rfl, q⟩
section
variable {X : Cx} {T : Tb} {K : PySem.W.Frag} {F H : Hp} {ι : Nat → Addr} {st : Store} {x y : V} {a b : Val} {Q : VK}
theorem in_data {dx dy : PyData} {d : Bool} (s : Sub F H) (h1 : SeenP T.K F H x dx) (h2 : SeenP T.K F H y dy) (e : inD dx dy = some d) (hK : X.K = T.K) (hu : X.A.units + 100 < cLine) :
    (∃ r, OpR X (compareOp .In) r ∧ ∀ Q : VK, Q (.bl d) H → r x y H Q) ∧ ∃ r, OpR X (compareOp .NotIn) r ∧ ∀ Q : VK, Q (.bl (!d)) H → r x y H Q := by
  unfold inD at e
  split at e
  · split at e
    · cases e
      cases h1.str; cases h2.str
      exact ⟨⟨_, op_in_str, fun Q q => ⟨_, _, rfl, rfl, q⟩⟩, ⟨_, op_notIn_str, fun Q q => ⟨_, _, rfl, rfl, q⟩⟩⟩
    · cases e
  · split at e
    · cases e
      rename_i hs
      obtain ⟨p, xs, rfl, r2, l2⟩ := h2.list s
      rcases hs with ⟨f1, f2⟩ | ⟨s1, s2⟩
      · have dx1 := h1.flat f1
        obtain ⟨k1, k2⟩ := inV_of dx1 f1 l2 f2
        rw [← k2]
        exact ⟨⟨_, op_in_seq, fun Q q => ⟨p, xs, rfl, .inl (.inl r2), flat_dat dx1 f1, k1, q⟩⟩, ⟨_, op_notIn_seq, fun Q q => ⟨p, xs, rfl, .inl (.inl r2), flat_dat dx1 f1, k1, q⟩⟩⟩
      · have p1 := Dat.dp _ _ (can_of s1) (h1.up s)
        have p2 := Dat.dp _ _ (can_of s2) (h2.up s)
        rw [← hK] at p1 p2
        exact ⟨⟨_, op_inD (by omega), fun Q q => ⟨_, _, p1, p2, s1, s2, q⟩⟩, ⟨_, op_notInD (by omega), fun Q q => ⟨_, _, p1, p2, s1, s2, q⟩⟩⟩
    · cases e
  · split at e
    · cases e
      rename_i hs
      obtain ⟨f1, f2⟩ := hs
      obtain ⟨p, xs, rfl, r2, _, l2⟩ := h2.tup s
      have dx1 := h1.flat f1
      obtain ⟨k1, k2⟩ := inV_of dx1 f1 l2 f2
      rw [← k2]
      exact ⟨⟨_, op_in_seq, fun Q q => ⟨p, xs, rfl, .inr (SqT.of r2), flat_dat dx1 f1, k1, q⟩⟩, ⟨_, op_notIn_seq, fun Q q => ⟨p, xs, rfl, .inr (SqT.of r2), flat_dat dx1 f1, k1, q⟩⟩⟩
    · cases e
  · rename_i kvs
    split at e
    · cases e
      rename_i hk
      obtain ⟨hk, hkind⟩ := hk
      obtain ⟨p, rfl, hd⟩ := h2.dict s
      have go : ∀ o, DGet H p x o ∨ (DEmp H p x ∧ o = none) → o.isSome = (kvs.any fun q => PyData.eqv q.1 dx) → (∃ r, OpR X (compareOp .In) r ∧ ∀ Q : VK, Q (.bl (kvs.any fun q => PyData.eqv q.1 dx)) H → r x (.ref p) H Q) ∧ ∃ r, OpR X (compareOp .NotIn) r ∧ ∀ Q : VK, Q (.bl (!(kvs.any fun q => PyData.eqv q.1 dx))) H → r x (.ref p) H Q := fun o g eo => by
        rw [← eo]
        exact ⟨⟨_, op_dIn (by omega), fun Q q => ⟨p, o, rfl, g, q⟩⟩, ⟨_, op_dNotIn (by omega), fun Q q => ⟨p, o, rfl, g, q⟩⟩⟩
      cases dx with
      | tuple ds =>
        obtain ⟨b, xs, rfl, hb, _, l1⟩ := h1.tup s
        obtain ⟨qs, rfl, rfl⟩ := keys_of l1 hk
        rcases hd with ⟨ks, r, dk⟩ | ⟨ks, r, dt⟩
        · cases dk with
          | nil => exact go none (.inr ⟨.inl ⟨r, qs, b, rfl, hb⟩, rfl⟩) rfl
          | cons _ _ =>
            rename_i k _ _ _ _ _ _
            cases k <;> (simp [kindOK, keyD, isKey1] at hkind)
        · exact go (valV ks qs) (.inl (.inr ⟨ks, qs, b, r, rfl, hb, rfl⟩)) (by rw [valV_isSome, dt.any qs])
      | _ =>
        first
          | (cases hk; done)
          | skip
        all_goals
          obtain ⟨q, rfl, e2⟩ := key1_of (h1.flat rfl) hk
          rw [e2]
          rw [e2] at go
          rcases hd with ⟨ks, r, dk⟩ | ⟨ks, r, dt⟩
          · exact go (valV ks q) (.inl (.inl ⟨ks, q, r, rfl, rfl⟩)) (by rw [valV_isSome, dk.any q])
          · cases dt with
            | nil => exact go none (.inr ⟨.inr ⟨r, q, rfl⟩, rfl⟩) rfl
            | cons _ _ => simp [kindOK, isKey1] at hkind
    · cases e
  · cases e

theorem cmp_data {o : CmpO} {dx dy : PyData} {d : Bool} (s : Sub F H) (h1 : SeenP T.K F H x dx) (h2 : SeenP T.K F H y dy) (e : cmpD o dx dy = some d) (hK : X.K = T.K) (hu : X.A.units + 100 < cLine) (q : Q (.bl d) H) :
    ∃ r, OpR X (compareOp (opC o)) r ∧ r x y H Q := by
  cases o with
  | eq =>
    obtain ⟨r, h, k⟩ := (eq_data (X := X) s h1 h2 e hK hu).1
    exact ⟨r, h, k Q q⟩
  | ne =>
    have e : (eqD dx dy).map (!·) = some d := e
    cases q1 : eqD dx dy with
    | none => rw [q1] at e; cases e
    | some b =>
      rw [q1] at e
      cases e
      obtain ⟨r, h, k⟩ := (eq_data (X := X) s h1 h2 q1 hK hu).2
      exact ⟨r, h, k Q q⟩
  | lt =>
    unfold cmpD at e
    simp only at e
    split at e
    · cases e; cases h1.int; cases h2.int
      exact ⟨_, op_lt, _, _, rfl, rfl, q⟩
    · cases e; cases h1.str; cases h2.str
      exact ⟨_, op_lt_str, _, _, rfl, rfl, q⟩
    · cases e
  | le =>
    unfold cmpD at e
    simp only at e
    split at e
    · cases e; cases h1.int; cases h2.int
      exact ⟨_, op_le, _, _, rfl, rfl, q⟩
    · cases e; cases h1.str; cases h2.str
      exact ⟨_, op_le_str, _, _, rfl, rfl, q⟩
    · cases e
  | gt =>
    unfold cmpD at e
    simp only at e
    split at e
    · cases e; cases h1.int; cases h2.int
      exact ⟨_, op_gt, _, _, rfl, rfl, q⟩
    · cases e; cases h1.str; cases h2.str
      exact ⟨_, op_gt_str, _, _, rfl, rfl, q⟩
    · cases e
  | ge =>
    unfold cmpD at e
    simp only at e
    split at e
    · cases e; cases h1.int; cases h2.int
      exact ⟨_, op_ge, _, _, rfl, rfl, q⟩
    · cases e; cases h1.str; cases h2.str
      exact ⟨_, op_ge_str, _, _, rfl, rfl, q⟩
    · cases e
  | is =>
    unfold cmpD at e
    simp only at e
    split at e
    · cases h2.non
      refine ⟨_, op_isN, rfl, ?_⟩
      have : decide (x = .non) = d := by
        cases dx with
        | none => cases h1.non; cases e; rfl
        | bool _ => cases h1.bl; cases e; rfl
        | int _ => cases h1.int; cases e; rfl
        | str _ => cases h1.str; cases e; rfl
        | list _ => obtain ⟨_, _, rfl, _⟩ := h1.list s; cases e; rfl
        | tuple _ => obtain ⟨_, _, rfl, _⟩ := h1.tup s; cases e; rfl
        | dict _ => obtain ⟨_, rfl, _⟩ := h1.dict s; cases e; rfl
      rw [this]
      exact q
    · cases e
  | isNot =>
    unfold cmpD at e
    simp only at e
    split at e
    · cases h2.non
      refine ⟨_, op_notN, rfl, ?_⟩
      have : (!decide (x = .non)) = d := by
        cases dx with
        | none => cases h1.non; cases e; rfl
        | bool _ => cases h1.bl; cases e; rfl
        | int _ => cases h1.int; cases e; rfl
        | str _ => cases h1.str; cases e; rfl
        | list _ => obtain ⟨_, _, rfl, _⟩ := h1.list s; cases e; rfl
        | tuple _ => obtain ⟨_, _, rfl, _⟩ := h1.tup s; cases e; rfl
        | dict _ => obtain ⟨_, rfl, _⟩ := h1.dict s; cases e; rfl
      rw [this]
      exact q
    · cases e
  | isin =>
    obtain ⟨r, h, k⟩ := (in_data (X := X) s h1 h2 e hK hu).1
    exact ⟨r, h, k Q q⟩
  | notin =>
    have e : (inD dx dy).map (!·) = some d := e
    cases q1 : inD dx dy with
    | none => rw [q1] at e; cases e
    | some b =>
      rw [q1] at e
      cases e
      obtain ⟨r, h, k⟩ := (in_data (X := X) s h1 h2 q1 hK hu).2
      exact ⟨r, h, k Q q⟩
theorem ref_of (S : Sim T F ι st H) (r : VRel T F ι st.length a x) (e : ∀ d, see st a ≠ .p d) : ∃ p, x = .ref p := by
  cases a with
  | p d => exact absurd rfl (e d)
  | r k => cases r; exact ⟨_, rfl⟩
  | t _ => cases r; exact ⟨_, rfl⟩
  | l _ => cases r; exact ⟨_, rfl⟩
  | x _ _ => cases r; exact ⟨_, rfl⟩
theorem op_cmp {o : CmpO} (hK : X.K = T.K) (hu : X.A.units + 100 < cLine) : OpR X (compareOp (opC o)) (rCmp T o) := opr_by fun x y H Q h => by
  obtain ⟨F, ι, st, a, b, d, S, ra, rb, e, q⟩ := h
  unfold cmpV at e
  split at e
  · rename_i dx dy e1 e2
    exact cmp_data S.sub (see_seen S ra e1) (see_seen S rb e2) e hK hu q
  · rename_i e2 hn
    have hb := see_seen S rb e2
    cases hb.non
    obtain ⟨p, rfl⟩ := ref_of S ra fun d hd => hn d hd
    split at e
    · cases e
      exact ⟨_, op_isN, rfl, q⟩
    · cases e
      exact ⟨_, op_notN, rfl, q⟩
    · cases e
  · cases e
theorem tru_of {k : Bool} (S : Sim T F ι st H) (r : VRel T F ι st.length a x) (e : truthV (see st a) = some k) : TruV T.K x H k := by
  by_cases hp : ∃ d, see st a = .p d
  · obtain ⟨d, hd⟩ := hp
    have h := see_seen S r hd
    rw [hd] at e
    cases d with
    | none => cases h.non; cases e; rfl
    | bool _ => cases h.bl; cases e; rfl
    | int _ => cases h.int; cases e; rfl
    | str z =>
      cases h.str
      have e : (if z.length ≤ SZ then some (z.length != 0) else none) = some k := e
      split at e
      · cases e
        rename_i hz
        refine ⟨by rw [← SZ_eq]; exact hz, ?_⟩
        rw [Bool.eq_iff_iff]
        simp
      · cases e
    | list ds =>
      obtain ⟨p, xs, rfl, r2, l2⟩ := h.list S.sub
      cases e
      exact .inl ⟨xs, .inl r2, by cases l2 <;> rfl⟩
    | tuple ds =>
      obtain ⟨p, xs, rfl, r2, _, l2⟩ := h.tup S.sub
      cases e
      exact .inr (.inl ⟨xs, SqT.of r2, by cases l2 <;> rfl⟩)
    | dict _ => cases e
  · have q2 := see_not (fun d hd => hp ⟨d, hd⟩)
    rw [q2] at e
    cases a with
    | p d => exact absurd ⟨d, rfl⟩ hp
    | r k => cases e
    | x _ _ => cases e
    | t vs =>
      cases r with
      | t h1 h2 =>
        cases e
        exact .inr (.inl ⟨_, SqT.of (S.sub.tup h1), by cases h2 <;> rfl⟩)
    | l vs =>
      cases r with
      | l h1 h2 =>
        cases e
        exact .inl ⟨_, .inl (S.sub.rd (.inl h1)), by cases h2 <;> rfl⟩
end
end Vm
end

section
/-! V5: the evaluator's steps as rules. -/
namespace Vm
open PySem L2 PySem.Spec PyProof.Rows

section
variable {X : Cx} {T : Tb} {W : L2.WX} {Kt : Kit} {e e1 e2 e3 : Expr} {es : List Expr} {pos p2 : Pos}
theorem de_var {i : Nat} {x : Str} (hN : X.N[i]? = some x) (hv : Vis X.env.scope x) (hd : (x == ("__debug__" : Str)) = false) (hcd : (x == ("__classdict__" : Str)) = false) : DE X T W (.Name x pos) (evalX Kt (.var i)) := pe_imp (pe_var hN hv hd hcd) fun σ H Q h => by
  obtain ⟨F, ι, env, st, S, E, p⟩ := h
  rw [evalX] at p
  split at p
  · rename_i v q
    obtain ⟨x, h1, h2⟩ := E.at_ i v q
    exact ⟨x, h1, p.now (Next.refl _ _ _) (Nat.le_refl _) S h2⟩
  · exact p.elim
theorem de_now {t : TE} {f : Env → Store → R Val} (h : PE X e t) (g : ∀ σ F ι env st H Q, Sim T F ι st H → PostG (RV T) T W σ F ι st.length (f env st) Q → t σ H Q) : DE X T W e f := pe_imp h fun σ H Q hh => by
  obtain ⟨F, ι, env, st, S, E, p⟩ := hh
  exact g σ F ι env st H Q S p
theorem de_int {i : Int} {j : Nat} : DE X T W (.Constant (.int i) j pos) (evalX Kt (.con (.int i))) := de_now pe_int fun σ F ι env st H Q S p => by
  rw [evalX] at p
  exact p.now (Next.refl _ _ _) (Nat.le_refl _) S (.p (.int i))
theorem de_bl {i : Bool} {j : Nat} : DE X T W (.Constant (.bool i) j pos) (evalX Kt (.con (.bool i))) := de_now pe_bl fun σ F ι env st H Q S p => by
  rw [evalX] at p
  exact p.now (Next.refl _ _ _) (Nat.le_refl _) S (.p (.bl i))
theorem de_str {i : Str} {j : Nat} : DE X T W (.Constant (.str i) j pos) (evalX Kt (.con (.str i))) := de_now pe_str fun σ F ι env st H Q S p => by
  rw [evalX] at p
  exact p.now (Next.refl _ _ _) (Nat.le_refl _) S (.p (.str i))
theorem de_non {j : Nat} : DE X T W (.Constant .none j pos) (evalX Kt (.con .none)) := de_now pe_non fun σ F ι env st H Q S p => by
  rw [evalX] at p
  exact p.now (Next.refl _ _ _) (Nat.le_refl _) S (.p .non)
/-- a constant of the module: an int, a text -/
theorem de_glo {x : Str} {g : Nat} {d : PyData} {u : Value} {v : V} (hg : Gl X x) (hm : X.mg x = some u) (r : RelV v u) (hv : Dat T.K (fun _ => none) v d) (hc : Kt.con g = some d) (hd : (x == ("__debug__" : Str)) = false) : DE X T W (.Name x pos) (evalX Kt (.glo g)) :=
  de_now (pe_glob hg hm r hd) fun σ F ι env st H Q S p => by
    rw [evalX, hc] at p
    exact p.now (Next.refl _ _ _) (Nat.le_refl _) S (.p (hv.up fun a o h => by cases h))
/-- two parts, then an operation by values -/
theorem de_two {r : R2} {fa fb : Env → Store → R Val} {g : Env → Val → Val → Store → R Val} (h : PE X e (tOp r (tEvG (RV T) T W fa) (tEvG (RV T) T W fb)))
    (k : ∀ σ F ι env st H a b x y Q, Sim T F ι st H → VRel T F ι st.length a x → VRel T F ι st.length b y → PostG (RV T) T W σ F ι st.length (g env a b st) Q → r x y H Q) :
    DE X T W e (fun env st => (fa env st).bind fun x st1 => (fb env st1).bind fun y st2 => g env x y st2) := pe_imp h fun σ H Q hh => by
  refine (ev_bind (RA := RV T) hh).imp fun x H1 ⟨F1, ι1, env, a, st1, M, p⟩ => ?_
  refine tEvG.imp (ev_go M.sim M.env (PostG.bind (RA := RV T) (r := fb env st1) p)) fun y H2 ⟨F2, ι2, b, st2, M2, p2⟩ => ?_
  exact k σ F2 ι2 env st2 H2 a b x y Q M2.sim (M.rel.up M2.nx M2.le) M2.rel p2
theorem de_eq {f g : Env → Store → R Val} (h : DE X T W e f) (q : ∀ env st, g env st = f env st) : DE X T W e g := pe_imp h fun σ H Q hh => by
  obtain ⟨F, ι, env, st, S, E, p⟩ := hh
  rw [q] at p
  exact ⟨F, ι, env, st, S, E, p⟩
theorem dt_eq {f g : Env → Store → R Bool} (h : DT X T W e f) (q : ∀ env st, g env st = f env st) : DT X T W e g := pt_imp h fun σ H Q hh => by
  obtain ⟨F, ι, env, st, S, E, p⟩ := hh
  rw [q] at p
  exact ⟨F, ι, env, st, S, E, p⟩
theorem da_eq {f g : Env → Store → R (List Val)} (h : DA X T W es f) (q : ∀ env st, g env st = f env st) : DA X T W es g := pa_imp h fun σ H Q hh => by
  obtain ⟨F, ι, env, st, S, E, p⟩ := hh
  rw [q] at p
  exact ⟨F, ι, env, st, S, E, p⟩
theorem de_bin {o : BinO} {a b : Ex} (hK : X.K = T.K) (h1 : DE X T W e1 (evalX Kt a)) (h2 : DE X T W e2 (evalX Kt b)) : DE X T W (.BinOp e1 (opB o) e2 pos) (evalX Kt (.bin o a b)) :=
  de_eq (de_two (W := W) (r := rBin T o) (fa := evalX Kt a) (fb := evalX Kt b) (g := fun _ x y st2 => R.of (binV o (see st2 x) (see st2 y)) st2) (pe_op (pos := pos) (op_bin hK) h1 h2) fun σ F ι env st H a b x y Q S ra rb p => by
    obtain ⟨d, e, A⟩ := of_ans S p
    exact ⟨F, ι, st, a, b, d, S, ra, rb, e, A⟩) fun env st => by rw [evalX] <;> rfl
theorem de_cmp {o : CmpO} {a b : Ex} (hK : X.K = T.K) (hu : X.A.units + 100 < cLine) (hm : behindInMarks (opC o) e2 = false) (h1 : DE X T W e1 (evalX Kt a)) (h2 : DE X T W e2 (evalX Kt b)) : DE X T W (.Compare e1 [opC o] [e2] pos) (evalX Kt (.cmp o a b)) :=
  de_eq (de_two (W := W) (r := rCmp T o) (fa := evalX Kt a) (fb := evalX Kt b) (g := fun _ x y st2 => match cmpV o (see st2 x) (see st2 y) with
    | some c => .ok (.p (.bool c)) st2
    | none => .no) (pe_cmpR (pos := pos) (op_cmp hK hu) h1 h2 hm) fun σ F ι env st H a b x y Q S ra rb p => by
    split at p
    · rename_i c hc
      exact ⟨F, ι, st, a, b, c, S, ra, rb, hc, (ok_ans S p).bl⟩
    · exact p.elim) fun env st => by rw [evalX] <;> rfl
theorem de_neg {a : Ex} (h1 : DE X T W e1 (evalX Kt a)) : DE X T W (.UnaryOp .USub e1 pos) (evalX Kt (.neg a)) :=
  de_eq (f := fun env st => (evalX Kt a env st).bind fun x st1 => match x with
    | .p (.int i) => .ok (.p (.int (-i))) st1
    | _ => .no) (pe_imp (pe_un (pos := pos) un_neg h1) fun σ H Q hh => by
    refine tEvG.imp (ev_bind (RA := RV T) (RB := RV T) (g := fun _ x st1 => match x with
      | Val.p (.int i) => .ok (.p (.int (-i))) st1
      | _ => .no) hh) fun x H1 ⟨F1, ι1, env, a, st1, M, p⟩ => ?_
    split at p
    · have r := M.rel
      cases r with
      | p r =>
        cases r
        exact ⟨_, rfl, (ok_ans M.sim p).int⟩
    · exact p.elim) fun env st => by rw [evalX] <;> rfl
theorem de_and {a b : Ex} {e' : Expr} {rest : List Expr} (hK : X.K = T.K) (h1 : DE X T W e1 (evalX Kt a)) (h2 : DE X T W (.BoolOp .And (e' :: rest) pos) (evalX Kt b)) : DE X T W (.BoolOp .And (e1 :: e' :: rest) pos) (evalX Kt (.and a b)) :=
  de_eq (f := fun env st => (evalX Kt a env st).bind ((fun env x st1 => match truthV (see st1 x) with
    | some true => evalX Kt b env st1
    | some false => .ok x st1
    | none => .no) env)) (pe_imp (pe_andT (pos := pos) h1 h2) fun σ H Q hh => by
    refine tEvG.imp (ev_bind (RA := RV T) (RB := RV T) hh) fun x H1 ⟨F1, ι1, env, a, st1, M, p⟩ => ?_
    cases q : truthV (see st1 a) with
    | none => rw [q] at p; exact p.elim
    | some k =>
      rw [q] at p
      refine ⟨k, by rw [hK]; exact tru_of M.sim M.rel q, ?_⟩
      cases k with
      | true => exact iteT (ev_go M.sim M.env p)
      | false => exact iteF (p.now (Next.refl _ _ _) (Nat.le_refl _) M.sim M.rel)) fun env st => by rw [evalX] <;> rfl
theorem de_or {a b : Ex} {e' : Expr} {rest : List Expr} (hK : X.K = T.K) (h1 : DE X T W e1 (evalX Kt a)) (h2 : DE X T W (.BoolOp .Or (e' :: rest) pos) (evalX Kt b)) : DE X T W (.BoolOp .Or (e1 :: e' :: rest) pos) (evalX Kt (.or a b)) :=
  de_eq (f := fun env st => (evalX Kt a env st).bind ((fun env x st1 => match truthV (see st1 x) with
    | some true => .ok x st1
    | some false => evalX Kt b env st1
    | none => .no) env)) (pe_imp (pe_orT (pos := pos) h1 h2) fun σ H Q hh => by
    refine tEvG.imp (ev_bind (RA := RV T) (RB := RV T) hh) fun x H1 ⟨F1, ι1, env, a, st1, M, p⟩ => ?_
    cases q : truthV (see st1 a) with
    | none => rw [q] at p; exact p.elim
    | some k =>
      rw [q] at p
      refine ⟨k, by rw [hK]; exact tru_of M.sim M.rel q, ?_⟩
      cases k with
      | true => exact iteT (p.now (Next.refl _ _ _) (Nat.le_refl _) M.sim M.rel)
      | false => exact iteF (ev_go M.sim M.env p)) fun env st => by rw [evalX] <;> rfl
theorem de_last {o : BoolOp} {a : Ex} (h1 : DE X T W e1 (evalX Kt a)) : DE X T W (.BoolOp o [e1] pos) (evalX Kt a) := pe_one h1
theorem de_not {a : Ex} (hK : X.K = T.K) (h1 : DE X T W e1 (evalX Kt a)) : DE X T W (.UnaryOp .Not e1 pos) (evalX Kt (.not a)) :=
  de_eq (f := fun env st => (evalX Kt a env st).bind ((fun _ x st1 => match truthV (see st1 x) with
    | some b => .ok (.p (.bool (!b))) st1
    | none => .no) env)) (pe_imp (pe_notT (pos := pos) h1) fun σ H Q hh => by
    refine tEvG.imp (ev_bind (RA := RV T) (RB := RV T) hh) fun x H1 ⟨F1, ι1, env, a, st1, M, p⟩ => ?_
    cases q : truthV (see st1 a) with
    | none => rw [q] at p; exact p.elim
    | some k =>
      rw [q] at p
      exact ⟨k, by rw [hK]; exact tru_of M.sim M.rel q, (ok_ans M.sim p).bl⟩) fun env st => by rw [evalX] <;> rfl
theorem de_ite {c a b : Ex} (h0 : DT X T W e1 (evalT Kt (.cons c .nil))) (h1 : DE X T W e2 (evalX Kt a)) (h2 : DE X T W e3 (evalX Kt b)) : DE X T W (.IfExp e1 e2 e3 pos) (evalX Kt (.ite c a b)) :=
  de_eq (f := fun env st => (evalT Kt (.cons c .nil) env st).bind ((fun env k st1 => match k with
    | true => evalX Kt a env st1
    | false => evalX Kt b env st1) env)) (pe_imp (pe_ifExp (pos := pos) h0 h1 h2) fun σ H Q hh => by
    refine tEvG.imp (ev_bind (RA := RE) (RB := RV T) hh) fun k H1 ⟨F1, ι1, env, a, st1, M, p⟩ => ?_
    have hk : a = k := M.rel
    subst hk
    cases a with
    | true => exact iteT (ev_go M.sim M.env p)
    | false => exact iteF (ev_go M.sim M.env p)) fun env st => by
      rw [evalX, evalT]
      cases evalX Kt c env st with
      | ok v s =>
        simp only [R.bind_ok]
        cases truthV (see s v) with
        | none => rfl
        | some k => cases k <;> rfl
      | er _ _ _ => rfl
      | no => rfl
theorem de_chn {o o' : CmpO} {a b c : Ex} (hK : X.K = T.K) (hu : X.A.units + 100 < cLine) (hm : lastMarks [opC o, opC o'] [e2, e3] = false) (h1 : DE X T W e1 (evalX Kt a)) (h2 : DE X T W e2 (evalX Kt b)) (h3 : DE X T W e3 (evalX Kt c)) :
    DE X T W (.Compare e1 [opC o, opC o'] [e2, e3] pos) (evalX Kt (.chn o o' a b c)) :=
  de_eq (f := fun env st => (evalX Kt a env st).bind ((fun env x st1 => (evalX Kt b env st1).bind fun y st2 => match cmpV o (see st2 x) (see st2 y) with
    | some true => (evalX Kt c env st2).bind fun z st3 => match cmpV o' (see st3 y) (see st3 z) with
      | some d => .ok (.p (.bool d)) st3
      | none => .no
    | some false => .ok (.p (.bool false)) st2
    | none => .no) env)) (pe_imp (pe_chain (pos := pos) (op_cmp (T := T) (o := o) hK hu) (op_cmp (T := T) (o := o') hK hu) h1 h2 h3 hm) fun σ H Q hh => by
    refine tEvG.imp (ev_bind (RA := RV T) (RB := RV T) hh) fun x H1 ⟨F1, ι1, env, a, st1, M, p⟩ => ?_
    refine tEvG.imp (ev_go M.sim M.env (PostG.bind (RA := RV T) (r := evalX Kt b env st1) p)) fun y H2 ⟨F2, ι2, b, st2, M2, p2⟩ => ?_
    have ra := M.rel.up M2.nx M2.le
    have E2 := M.env.up M2.nx M2.le
    cases q : cmpV o (see st2 a) (see st2 b) with
    | none => rw [q] at p2; exact p2.elim
    | some k =>
      rw [q] at p2
      refine ⟨F2, ι2, st2, a, b, k, M2.sim, ra, M2.rel, q, k, rfl, ?_⟩
      cases k with
      | true =>
        refine iteT (tEvG.imp (ev_go M2.sim E2 (PostG.bind (RA := RV T) (r := evalX Kt c env st2) p2)) fun z H3 ⟨F3, ι3, d, st3, M3, p3⟩ => ?_)
        cases q3 : cmpV o' (see st3 b) (see st3 d) with
        | none => rw [q3] at p3; exact p3.elim
        | some k3 =>
          rw [q3] at p3
          exact ⟨F3, ι3, st3, b, d, k3, M3.sim, M2.rel.up M3.nx M3.le, M3.rel, q3, (ok_ans M3.sim p3).bl⟩
      | false => exact iteF (ok_ans M2.sim p2).bl) fun env st => by rw [evalX] <;> rfl
end

/-! ### tests -/
section
variable {X : Cx} {T : Tb} {W : L2.WX} {Kt : Kit} {e e1 e2 e3 : Expr} {es : List Expr} {pos p2 : Pos}
/-- a test of any expression that isTrue asks plainly -/
theorem dt_plain {a : Ex} (hK : X.K = T.K) (h1 : DE X T W e (evalX Kt a)) (he : ∀ whole, isTrue e X.env whole = (do let v ← whole; standAt e.pos; holding [v] (truthy v))) : DT X T W e (evalT Kt (.cons a .nil)) :=
  dt_eq (f := fun env st => (evalX Kt a env st).bind ((fun _ x st1 => match truthV (see st1 x) with
    | some b => .ok b st1
    | none => .no) env)) (pt_imp (pt_truth h1 he) fun σ H Q hh => by
    refine tEvG.imp (ev_bind (RA := RV T) (RB := RE) hh) fun x H1 ⟨F1, ι1, env, a, st1, M, p⟩ => ?_
    cases q : truthV (see st1 a) with
    | none => rw [q] at p; exact p.elim
    | some k =>
      rw [q] at p
      exact ⟨k, by rw [hK]; exact tru_of M.sim M.rel q, p.now (Next.refl _ _ _) (Nat.le_refl _) M.sim rfl⟩) fun env st => by rw [evalT] <;> rfl
theorem bind_bind {α β γ : Type} (r : R α) (f : α → Store → R β) (g : β → Store → R γ) : (r.bind f).bind g = r.bind fun a s => (f a s).bind g := by
  cases r <;> rfl
theorem dt_cmp {o : CmpO} {a b : Ex} (hK : X.K = T.K) (hu : X.A.units + 100 < cLine) (hm : behindInMarks (opC o) e2 = false) (h1 : DE X T W e1 (evalX Kt a)) (h2 : DE X T W e2 (evalX Kt b)) : DT X T W (.Compare e1 [opC o] [e2] pos) (evalT Kt (.cons (.cmp o a b) .nil)) :=
  dt_eq (f := fun env st => (evalX Kt a env st).bind ((fun env x st1 => (evalX Kt b env st1).bind fun y st2 => match cmpV o (see st2 x) (see st2 y) with
    | some c => .ok c st2
    | none => .no) env)) (pt_imp (pt_cmpR (pos := pos) (op_cmp (T := T) (o := o) hK hu) h1 h2 hm) fun σ H Q hh => by
    refine tEvG.imp (ev_bind (RA := RV T) (RB := RE) hh) fun x H1 ⟨F1, ι1, env, a, st1, M, p⟩ => ?_
    refine tEvG.imp (ev_go M.sim M.env (PostG.bind (RA := RV T) (r := evalX Kt b env st1) p)) fun y H2 ⟨F2, ι2, b, st2, M2, p2⟩ => ?_
    cases q : cmpV o (see st2 a) (see st2 b) with
    | none => rw [q] at p2; exact p2.elim
    | some k =>
      rw [q] at p2
      exact ⟨F2, ι2, st2, a, b, k, M2.sim, M.rel.up M2.nx M2.le, M2.rel, q, k, rfl, p2.now (Next.refl _ _ _) (Nat.le_refl _) M2.sim rfl⟩) fun env st => by
      rw [evalT, evalX, bind_bind]
      congr 1
      funext x st1
      rw [bind_bind]
      congr 1
      funext y st2
      cases cmpV o (see st2 x) (see st2 y) <;> rfl
theorem dt_chn {o o' : CmpO} {a b c : Ex} (hK : X.K = T.K) (hu : X.A.units + 100 < cLine) (hm : lastMarks [opC o, opC o'] [e2, e3] = false) (h1 : DE X T W e1 (evalX Kt a)) (h2 : DE X T W e2 (evalX Kt b)) (h3 : DE X T W e3 (evalX Kt c)) :
    DT X T W (.Compare e1 [opC o, opC o'] [e2, e3] pos) (evalT Kt (.cons (.chn o o' a b c) .nil)) :=
  dt_eq (f := fun env st => (evalX Kt a env st).bind ((fun env x st1 => (evalX Kt b env st1).bind fun y st2 => match cmpV o (see st2 x) (see st2 y) with
    | some true => (evalX Kt c env st2).bind fun z st3 => match cmpV o' (see st3 y) (see st3 z) with
      | some d => .ok d st3
      | none => .no
    | some false => .ok false st2
    | none => .no) env)) (pt_imp (pt_chain (pos := pos) (op_cmp (T := T) (o := o) hK hu) (op_cmp (T := T) (o := o') hK hu) h1 h2 h3 hm) fun σ H Q hh => by
    refine tEvG.imp (ev_bind (RA := RV T) (RB := RE) hh) fun x H1 ⟨F1, ι1, env, a, st1, M, p⟩ => ?_
    refine tEvG.imp (ev_go M.sim M.env (PostG.bind (RA := RV T) (r := evalX Kt b env st1) p)) fun y H2 ⟨F2, ι2, b, st2, M2, p2⟩ => ?_
    have ra := M.rel.up M2.nx M2.le
    have E2 := M.env.up M2.nx M2.le
    cases q : cmpV o (see st2 a) (see st2 b) with
    | none => rw [q] at p2; exact p2.elim
    | some k =>
      rw [q] at p2
      refine ⟨F2, ι2, st2, a, b, k, M2.sim, ra, M2.rel, q, k, rfl, ?_⟩
      cases k with
      | true =>
        refine iteT (tEvG.imp (ev_go M2.sim E2 (PostG.bind (RA := RV T) (r := evalX Kt c env st2) p2)) fun z H3 ⟨F3, ι3, d, st3, M3, p3⟩ => ?_)
        cases q3 : cmpV o' (see st3 b) (see st3 d) with
        | none => rw [q3] at p3; exact p3.elim
        | some k3 =>
          rw [q3] at p3
          exact ⟨F3, ι3, st3, b, d, k3, M3.sim, M2.rel.up M3.nx M3.le, M3.rel, q3, k3, rfl, p3.now (Next.refl _ _ _) (Nat.le_refl _) M3.sim rfl⟩
      | false => exact iteF ⟨false, rfl, p2.now (Next.refl _ _ _) (Nat.le_refl _) M2.sim rfl⟩) fun env st => by
      rw [evalT, evalX, bind_bind]
      congr 1
      funext x st1
      rw [bind_bind]
      congr 1
      funext y st2
      cases cmpV o (see st2 x) (see st2 y) with
      | none => rfl
      | some k =>
        cases k with
        | false => rfl
        | true =>
          simp only
          rw [bind_bind]
          congr 1
          funext z st3
          cases cmpV o' (see st3 y) (see st3 z) <;> rfl
theorem dt_not {a : Ex} (h1 : DT X T W e1 (evalT Kt (.cons a .nil))) : DT X T W (.UnaryOp .Not e1 pos) (evalT Kt (.cons (.not a) .nil)) :=
  dt_eq (f := fun env st => (evalT Kt (.cons a .nil) env st).bind ((fun _ k st1 => .ok (!k) st1) env)) (pt_imp (pt_not (pos := pos) h1) fun σ H Q hh => by
    refine tEvG.imp (ev_bind (RA := RE) (RB := RE) hh) fun k H1 ⟨F1, ι1, env, a, st1, M, p⟩ => ?_
    have hk : a = k := M.rel
    subst hk
    exact p.now (Next.refl _ _ _) (Nat.le_refl _) M.sim rfl) fun env st => by
      rw [evalT, evalX, evalT, bind_bind, bind_bind]
      congr 1
      funext x st1
      cases truthV (see st1 x) <;> rfl
/-- and, or: tests -/
abbrev DW (X : Cx) (T : Tb) (W : L2.WX) (e : Expr) (f : Env → Store → R Bool) : Prop := PW X e (tEvG RE T W f)
theorem dw_eq {f g : Env → Store → R Bool} (h : DW X T W e f) (q : ∀ env st, g env st = f env st) : DW X T W e g := pw_imp h fun σ H Q hh => by
  obtain ⟨F, ι, env, st, S, E, p⟩ := hh
  rw [q] at p
  exact ⟨F, ι, env, st, S, E, p⟩
theorem dw_and1 {a : Ex} (h1 : DT X T W e1 (evalT Kt (.cons a .nil))) : DW X T W (.BoolOp .And [e1] pos) (evalT Kt (.cons a .nil)) := pw_and1 h1
theorem dw_or1 {a : Ex} (h1 : DT X T W e1 (evalT Kt (.cons a .nil))) : DW X T W (.BoolOp .Or [e1] pos) (evalT Kt (.cons a .nil)) := pw_or1 h1
theorem dw_and {a b : Ex} {e' : Expr} {rest : List Expr} (h1 : DT X T W e1 (evalT Kt (.cons a .nil))) (h2 : DW X T W (.BoolOp .And (e' :: rest) pos) (evalT Kt (.cons b .nil))) : DW X T W (.BoolOp .And (e1 :: e' :: rest) pos) (evalT Kt (.cons (.and a b) .nil)) :=
  dw_eq (f := fun env st => (evalT Kt (.cons a .nil) env st).bind ((fun env k st1 => match k with
    | true => evalT Kt (.cons b .nil) env st1
    | false => .ok false st1) env)) (pw_imp (pw_and (pos := pos) h1 h2) fun σ H Q hh => by
    refine tEvG.imp (ev_bind (RA := RE) (RB := RE) hh) fun k H1 ⟨F1, ι1, env, a, st1, M, p⟩ => ?_
    have hk : a = k := M.rel
    subst hk
    cases a with
    | true => exact iteT (ev_go M.sim M.env p)
    | false => exact iteF (p.now (Next.refl _ _ _) (Nat.le_refl _) M.sim rfl)) fun env st => by
      rw [evalT, evalX, evalT, bind_bind, bind_bind]
      congr 1
      funext x st1
      cases q : truthV (see st1 x) with
      | none => rfl
      | some k =>
        cases k with
        | true => simp only [R.bind_ok]; rw [evalT]
        | false => simp only [R.bind_ok, q]
theorem dw_or {a b : Ex} {e' : Expr} {rest : List Expr} (h1 : DT X T W e1 (evalT Kt (.cons a .nil))) (h2 : DW X T W (.BoolOp .Or (e' :: rest) pos) (evalT Kt (.cons b .nil))) : DW X T W (.BoolOp .Or (e1 :: e' :: rest) pos) (evalT Kt (.cons (.or a b) .nil)) :=
  dw_eq (f := fun env st => (evalT Kt (.cons a .nil) env st).bind ((fun env k st1 => match k with
    | true => .ok true st1
    | false => evalT Kt (.cons b .nil) env st1) env)) (pw_imp (pw_or (pos := pos) h1 h2) fun σ H Q hh => by
    refine tEvG.imp (ev_bind (RA := RE) (RB := RE) hh) fun k H1 ⟨F1, ι1, env, a, st1, M, p⟩ => ?_
    have hk : a = k := M.rel
    subst hk
    cases a with
    | true => exact iteT (p.now (Next.refl _ _ _) (Nat.le_refl _) M.sim rfl)
    | false => exact iteF (ev_go M.sim M.env p)) fun env st => by
      rw [evalT, evalX, evalT, bind_bind, bind_bind]
      congr 1
      funext x st1
      cases q : truthV (see st1 x) with
      | none => rfl
      | some k =>
        cases k with
        | true => simp only [R.bind_ok, q]
        | false => simp only [R.bind_ok]; rw [evalT]
end
end Vm
end

section
/-! V6: the store grows, changes; arguments, displays, items, slices, calls. -/
namespace Vm
open PySem L2 PySem.Spec PyProof.Rows

section
variable {T : Tb} {F F' H H' : Hp} {ι ι' : Nat → Addr} {n n' : Nat} {st : Store}
theorem CellR.is {a : Addr} {c : Cell} (s : Sub F H) (h : CellR T F ι n H a c) : H a ≠ none := by
  cases c with
  | pl ds => obtain ⟨_, xs, h, _⟩ := h; rw [h]; simp
  | ml ds => obtain ⟨_, xs, h, _⟩ := h; rw [h]; simp
  | pd ds => obtain ⟨_, ⟨_, h, _⟩ | ⟨_, h, _⟩⟩ := h <;> (rw [h]; simp)
  | md ds => obtain ⟨_, ⟨_, h, _⟩ | ⟨_, h, _⟩⟩ := h <;> (rw [h]; simp)
  | ob c fs => obtain ⟨_, _, _, h, _⟩ := h; rw [h]; simp
  | fz d =>
    obtain ⟨⟨o, h⟩, _⟩ := h
    rcases s a o h with h | ⟨_, _, h⟩ <;> (rw [h]; simp)
  | lk c => exact h.elim
/-- a cell elsewhere -/
theorem CellR.el {a : Addr} {c : Cell} (N : Next F ι n F' ι') (hn : n ≤ n') (hh : ∀ o, H a = some o → H' a = some o) (hf : F a = none → F' a = none) (h : CellR T F ι n H a c) : CellR T F' ι' n' H' a c := by
  cases c with
  | pl ds => obtain ⟨h0, xs, h1, h2⟩ := h; exact ⟨hf h0, xs, hh _ h1, h2.up N.sub⟩
  | ml ds => obtain ⟨h0, xs, h1, h2⟩ := h; exact ⟨hf h0, xs, hh _ h1, h2.up N hn⟩
  | pd ds =>
    obtain ⟨h0, ⟨xs, h1, h2⟩ | ⟨xs, h1, h2⟩⟩ := h
    · exact ⟨hf h0, .inl ⟨xs, hh _ h1, h2.up (T := T) N.sub⟩⟩
    · exact ⟨hf h0, .inr ⟨xs, hh _ h1, h2.up (T := T) N.sub⟩⟩
  | md ds =>
    obtain ⟨h0, ⟨xs, h1, h2⟩ | ⟨xs, h1, h2⟩⟩ := h
    · exact ⟨hf h0, .inl ⟨xs, hh _ h1, h2.up N hn⟩⟩
    · exact ⟨hf h0, .inr ⟨xs, hh _ h1, h2.up N hn⟩⟩
  | ob c fs => obtain ⟨h0, dx, gs, h1, h2⟩ := h; exact ⟨hf h0, dx, gs, hh _ h1, h2.up N hn⟩
  | fz d => obtain ⟨⟨o, h1⟩, h2⟩ := h; exact ⟨⟨o, N.f _ _ h1⟩, h2.up N.sub⟩
  | lk c => exact h.elim
theorem Sim.tracked (S : Sim T F ι st H) {k : Nat} (hk : k < st.length) : H (ι k) ≠ none := (S.cel k st[k] (by simp [hk])).is S.sub
/-- a new cell at p -/
theorem Sim.push {p : Addr} {o : HO} {c : Cell} (S : Sim T F ι st H) (hp : H p = none) (hc : CellR T F (fun k => if k = st.length then p else ι k) (st.length + 1) (upd H p o) p c) :
    Sim T F (fun k => if k = st.length then p else ι k) (st ++ [c]) (upd H p o) ∧ Next F ι st.length F (fun k => if k = st.length then p else ι k) := by
  have N : Next F ι st.length F (fun k => if k = st.length then p else ι k) := ⟨fun _ _ h => h, fun k hk => if_neg (Nat.ne_of_lt hk)⟩
  have fp : F p = none := by
    cases e : F p with
    | none => rfl
    | some u => rcases S.sub p u e with h | ⟨_, _, h⟩ <;> (rw [hp] at h; cases h)
  refine ⟨⟨fun a u e => ?_, fun k c' e => ?_, fun j k hj hk e => ?_, fun a u e => ?_, fun a u e => ?_⟩, N⟩
  · have ne : a ≠ p := ne_of_none e fp
    rcases S.sub a u e with h | ⟨q, ob, h⟩
    · exact .inl (by rw [upd_ne ne]; exact h)
    · exact .inr ⟨q, ob, by rw [upd_ne ne]; exact h⟩
  · rw [List.length_append, List.length_singleton]
    by_cases hk : k = st.length
    · subst hk
      rw [List.getElem?_append_right (Nat.le_refl _)] at e
      simp at e
      subst e
      simpa using hc
    · rw [if_neg hk]
      have lt : k < st.length := by
        have : k < (st ++ [c]).length := by
          rcases Nat.lt_or_ge k (st ++ [c]).length with h | h
          · exact h
          · rw [List.getElem?_eq_none h] at e; cases e
        rw [List.length_append, List.length_singleton] at this
        omega
      rw [List.getElem?_append_left lt] at e
      refine (S.cel k c' e).el N (Nat.le_succ _) (fun o h => ?_) (fun h => h)
      rw [upd_ne (ne_of_none h hp)]
      exact h
  · rw [List.length_append, List.length_singleton] at hj hk
    have e : (if j = st.length then p else ι j) = (if k = st.length then p else ι k) := e
    by_cases h1 : j = st.length
    · by_cases h2 : k = st.length
      · omega
      · rw [if_pos h1, if_neg h2] at e
        exact absurd (by rw [← e]; exact hp) (S.tracked (show k < st.length by omega))
    · by_cases h2 : k = st.length
      · rw [if_neg h1, if_pos h2] at e
        exact absurd (by rw [e]; exact hp) (S.tracked (show j < st.length by omega))
      · rw [if_neg h1, if_neg h2] at e
        exact S.inj j k (by omega) (by omega) e
  · rw [upd_ne (ne_of_none (S.gd a u e) hp)]
    exact S.gd a u e
  · refine ⟨(S.gf a u e).1, fun k hk => ?_⟩
    rw [List.length_append, List.length_singleton] at hk
    show (if k = st.length then p else ι k) ≠ a
    by_cases h1 : k = st.length
    · rw [if_pos h1]
      exact fun z => ne_of_none (S.gd a u e) hp z.symm
    · rw [if_neg h1]
      exact (S.gf a u e).2 k (by omega)
/-- a cell is changed -/
theorem Sim.put {k : Nat} {o : HO} {c : Cell} (S : Sim T F ι st H) (hk : k < st.length) (f0 : F (ι k) = none) (hc : CellR T F ι st.length (upd H (ι k) o) (ι k) c) : Sim T F ι (st.set k c) (upd H (ι k) o) := by
  refine ⟨fun a u e => ?_, fun j c' e => ?_, fun i j hi hj e => S.inj i j (by simpa using hi) (by simpa using hj) e, fun a u e => by rw [upd_ne (fun z => (S.gf a u e).2 k hk z.symm)]; exact S.gd a u e, fun a u e => ⟨(S.gf a u e).1, fun j hj => (S.gf a u e).2 j (by simpa using hj)⟩⟩
  · have ne : a ≠ ι k := ne_of_none e f0
    rcases S.sub a u e with h | ⟨q, ob, h⟩
    · exact .inl (by rw [upd_ne ne]; exact h)
    · exact .inr ⟨q, ob, by rw [upd_ne ne]; exact h⟩
  · rw [List.length_set]
    by_cases hj : k = j
    · subst hj
      rw [List.getElem?_set_self hk] at e
      cases e
      exact hc
    · rw [List.getElem?_set_ne hj] at e
      have lt : j < st.length := by
        rcases Nat.lt_or_ge j st.length with h | h
        · exact h
        · rw [List.getElem?_eq_none h] at e; cases e
      refine (S.cel j c' e).el (Next.refl _ _ _) (Nat.le_refl _) (fun o h => ?_) fun h => h
      rw [upd_ne (fun z => hj (S.inj k j hk lt z.symm))]
      exact h
/-- a cell is frozen -/
theorem Sim.freeze {k : Nat} {o : HO} {d : PyData} (S : Sim T F ι st H) (hk : k < st.length) (f0 : F (ι k) = none) (ho : H (ι k) = some o) (hd : Dat T.K (upd F (ι k) o) (.ref (ι k)) d) :
    Sim T (upd F (ι k) o) ι (st.set k (.fz d)) H ∧ Next F ι st.length (upd F (ι k) o) ι := by
  have N : Next F ι st.length (upd F (ι k) o) ι := ⟨fun a u e => by rw [upd_ne (ne_of_none e f0)]; exact e, fun _ _ => rfl⟩
  refine ⟨⟨fun a u e => ?_, fun j c' e => ?_, fun i j hi hj e => S.inj i j (by simpa using hi) (by simpa using hj) e, S.gd, fun a u e => ⟨by rw [upd_ne (fun z => (S.gf a u e).2 k hk z.symm)]; exact (S.gf a u e).1, fun j hj => (S.gf a u e).2 j (by simpa using hj)⟩⟩, N⟩
  · by_cases h : a = ι k
    · subst h
      rw [upd_same] at e
      cases e
      exact .inl ho
    · rw [upd_ne h] at e
      exact S.sub a u e
  · rw [List.length_set]
    by_cases hj : k = j
    · subst hj
      rw [List.getElem?_set_self hk] at e
      cases e
      exact ⟨⟨o, upd_same⟩, hd⟩
    · rw [List.getElem?_set_ne hj] at e
      have lt : j < st.length := by
        rcases Nat.lt_or_ge j st.length with h | h
        · exact h
        · rw [List.getElem?_eq_none h] at e; cases e
      refine (S.cel j c' e).el N (Nat.le_refl _) (fun o h => h) fun h => ?_
      rw [upd_ne (fun z => hj (S.inj k j hk lt z.symm))]
      exact h
end

/-! ### arguments -/
section
variable {X : Cx} {T : Tb} {W : L2.WX} {Kt : Kit} {e e1 e2 e3 : Expr} {es : List Expr} {pos p2 : Pos}
theorem da_nil : DA X T W [] (evalL Kt .nil) := pa_imp pa_nil fun σ H Q hh => by
  obtain ⟨F, ι, env, st, S, E, p⟩ := hh
  rw [evalL] at p
  exact p.now (Next.refl _ _ _) (Nat.le_refl _) S .nil
theorem da_cons {a b : Ex} (h1 : DE X T W e (evalX Kt a)) (h2 : DA X T W es (evalL Kt b)) (hs : starEach (e :: es) X.env = (false, eval e X.env) :: starEach es X.env) : DA X T W (e :: es) (evalL Kt (.cons a b)) :=
  da_eq (f := fun env st => (evalX Kt a env st).bind ((fun env x st1 => (evalL Kt b env st1).bind fun xs st2 => .ok (x :: xs) st2) env)) (pa_imp (pa_cons h1 h2 hs) fun σ H Q hh => by
    refine tEvG.imp (ev_bind (RA := RV T) (RB := RL T) hh) fun x H1 ⟨F1, ι1, env, a, st1, M, p⟩ => ?_
    refine tEvG.imp (ev_go M.sim M.env (PostG.bind (RA := RL T) (r := evalL Kt b env st1) p)) fun y H2 ⟨F2, ι2, b, st2, M2, p2⟩ => ?_
    exact p2.now (Next.refl _ _ _) (Nat.le_refl _) M2.sim (.cons (M.rel.up M2.nx M2.le) M2.rel)) fun env st => by rw [evalL]
/-- arguments, then a use of their values -/
theorem de_args {f : Env → Store → R (List Val)} {t : TA → TE} {g : Env → List Val → Store → R Val} {r : L2.St → List V → Hp → VK → Prop} (h : PE X e fun σ H Q => tEvG (RL T) T W f σ H fun vs H1 => r σ vs H1 Q)
    (k : ∀ σ F ι env st H vs xs Q, Sim T F ι st H → VRelL T F ι st.length vs xs → PostG (RV T) T W σ F ι st.length (g env vs st) Q → r σ xs H Q) :
    DE X T W e (fun env st => (f env st).bind (g env)) := pe_imp h fun σ H Q hh => by
  refine tEvG.imp (ev_bind (RA := RL T) (RB := RV T) hh) fun xs H1 ⟨F1, ι1, env, vs, st1, M, p⟩ => ?_
  exact k σ F1 ι1 env st1 H1 vs xs Q M.sim M.rel p
theorem de_tup {a : Ex} {x1 : Nat} (h : DA X T W es (evalL Kt a)) : DE X T W (.Tuple es x1 pos) (evalX Kt (.tup a)) :=
  de_eq (de_args (t := tTup) (g := fun _ vs st1 => if vs.length ≤ SZ then .ok (mkT vs) st1 else .no) (pe_tup (x1 := x1) (pos := pos) h) fun σ F ι env st H vs xs Q S r p => by
    split at p
    · rename_i hz
      exact ⟨by rw [← r.length, ← SZ_eq]; exact hz, (ok_ans S p).mkT S.sub r⟩
    · exact p.elim) fun env st => by rw [evalX]
/-- a new list, frozen or a cell -/
theorem alloc_post {f : Nat} {F H : Hp} {ι : Nat → Addr} {σ : L2.St} {st : Store} {vs : List Val} {xs : List V} {Q : VK} (S : Sim T F ι st H) (r : VRelL T F ι st.length vs xs) (p : PostG (RV T) T W σ F ι st.length (alloc f vs st) Q) :
    ∀ q, H q = none → Q (.ref q) (upd H q (.lst xs)) := fun q hq => by
  have f0 : F q = none := by
    cases e : F q with
    | none => rfl
    | some u => rcases S.sub q u e with h | ⟨_, _, h⟩ <;> (rw [hq] at h; cases h)
  unfold alloc at p
  split at p
  · exact (ok_ans S p).mkL S.sub r q hq
  · split at p
    · rename_i ds e
      obtain ⟨S2, N⟩ := S.push (o := .lst xs) (c := .pl ds) hq ⟨f0, xs, upd_same, r.pure e⟩
      refine p F _ _ (.ref q) N (by simp) S2 ?_
      have := VRel.r (T := T) (F := F) (ι := fun k => if k = st.length then q else ι k) (n := (st ++ [Cell.pl ds]).length) (k := st.length) (by simp)
      simpa using this
    · exact p.elim
  · obtain ⟨S2, N⟩ := S.push (o := .lst xs) (c := .ml vs) hq ⟨f0, xs, upd_same, r.up ⟨fun _ _ h => h, fun k hk => if_neg (Nat.ne_of_lt hk)⟩ (Nat.le_succ _)⟩
    refine p F _ _ (.ref q) N (by simp) S2 ?_
    have := VRel.r (T := T) (F := F) (ι := fun k => if k = st.length then q else ι k) (n := (st ++ [Cell.ml vs]).length) (k := st.length) (by simp)
    simpa using this
theorem de_lst {f : Nat} {a : Ex} (h : DA X T W es (evalL Kt a)) : DE X T W (.List es pos) (evalX Kt (.lst f a)) :=
  de_eq (de_args (t := tLst) (g := fun _ vs st1 => if vs.length ≤ SZ then alloc f vs st1 else .no) (pe_lst (pos := pos) h) fun σ F ι env st H vs xs Q S r p => by
    split at p
    · rename_i hz
      exact ⟨by rw [← r.length, ← SZ_eq]; exact hz, alloc_post S r p⟩
    · exact p.elim) fun env st => by rw [evalX]
end
end Vm
end

section
/-! V7: items, slices, concatenations, calls. -/
namespace Vm
open PySem L2 PySem.Spec PyProof.Rows

section
variable {α β γ δ : Type} {RA : Hp → (Nat → Addr) → Nat → α → β → Prop} {RB : Hp → (Nat → Addr) → Nat → γ → δ → Prop} {T : Tb} {W : L2.WX} {σ : L2.St} {F F' H H' : Hp} {ι ι' : Nat → Addr} {n n' : Nat} {st : Store}
/-- .. and what the first part gave -/
theorem PostG.bindE {r : R α} {g : α → Store → R γ} {Q : δ → Hp → Prop} (p : PostG RB T W σ F ι n (r.bind g) Q) :
    PostG RA T W σ F ι n r (fun x H1 => ∃ F1 ι1 v st1, Mid RA T F ι n H1 F1 ι1 v x st1 ∧ r = .ok v st1 ∧ PostG RB T W σ F1 ι1 st1.length (g v st1) Q) := by
  cases r with
  | ok v s => exact fun F2 ι2 H2 x N2 h2 S R => ⟨F2, ι2, v, s, ⟨N2, h2, S, R⟩, rfl, PostG.up N2 h2 (fun _ _ _ _ => trivial) p⟩
  | er c fs s => exact p
  | no => exact p
theorem de_by {X : Cx} {e : Expr} {f : Env → Store → R Val} (h : ∀ σ F ι env st H Q, Sim T F ι st H → EnvR T F ι st.length σ env → PostG (RV T) T W σ F ι st.length (f env st) Q → ∃ t, PE X e t ∧ t σ H Q) : DE X T W e f :=
  pe_by fun σ H Q ⟨F, ι, env, st, S, E, p⟩ => h σ F ι env st H Q S E p
end
theorem ixr_by {X : Cx} {r' : R2} (h : ∀ x y H Q, r' x y H Q → ∃ r, IxR X r ∧ r x y H Q) : IxR X r' := fun value slice pins s σ H x y v u Q I rx ry q hs => by
  obtain ⟨r, h1, h2⟩ := h x y H Q q
  exact h1 value slice pins s σ H x y v u Q I rx ry h2 hs
theorem slr_by {X : Cx} {r' : V → Option Int → Option Int → Hp → VK → Prop} (h : ∀ x lo hi H Q, r' x lo hi H Q → ∃ r, SlR X r ∧ r x lo hi H Q) : SlR X r' := fun pins s σ H x v vl vu lo hi sl Q I rx hs pl pu q => by
  obtain ⟨r, h1, h2⟩ := h x lo hi H Q q
  exact h1 pins s σ H x v vl vu lo hi sl Q I rx hs pl pu h2

section
variable {T : Tb} {K : PySem.W.Frag} {F H : Hp} {ι : Nat → Addr} {n : Nat} {st : Store} {x y : V} {a b : Val}
theorem DatL.at_ {vs : List V} {ds : List PyData} {i : Int} {d : PyData} (h : DatL K F vs ds) (e : atL ds i = some d) : ∃ v, atI vs i = some v ∧ Dat K F v d := by
  unfold atL atI at e
  unfold atI
  rw [h.length]
  cases q : ixN ds.length i with
  | none => rw [q] at e; cases e
  | some j =>
    rw [q] at e
    exact h.get e
theorem VRelL.at_ {vs : List Val} {xs : List V} {i : Int} {d : Val} (h : VRelL T F ι n vs xs) (e : atL vs i = some d) : ∃ v, atI xs i = some v ∧ VRel T F ι n d v := by
  unfold atL atI at e
  unfold atI
  rw [← h.length]
  cases q : ixN vs.length i with
  | none => rw [q] at e; cases e
  | some j =>
    rw [q] at e
    exact h.get e
theorem DatL.cut {vs : List V} {ds : List PyData} (h : DatL K F vs ds) (lo hi : Option Int) : DatL K F (cutV vs lo hi) (cutL ds lo hi) := by
  unfold cutV cutL
  rw [h.length]
  exact (h.drop _).take _
theorem VRelL.cut {vs : List Val} {xs : List V} (h : VRelL T F ι n vs xs) (lo hi : Option Int) : VRelL T F ι n (cutL vs lo hi) (cutV xs lo hi) := by
  unfold cutV cutL
  rw [h.length]
  exact (h.drop _).take _
/-- a cell that holds a list of anything -/
theorem ml_of {k : Nat} {vs : List Val} (S : Sim T F ι st H) (e : st[k]? = some (.ml vs)) : F (ι k) = none ∧ ∃ xs, H (ι k) = some (.lst xs) ∧ VRelL T F ι st.length vs xs := S.cel k _ e
theorem see_t {xs : List Val} (e : see st a = .t xs) : a = .t xs := by
  cases a with
  | r k =>
    cases h : st[k]? with
    | none => simp [see, h] at e
    | some c => cases q : seeC c <;> simp [see, h, q] at e
  | _ => exact e
theorem see_l {xs : List Val} (e : see st a = .l xs) : a = .l xs := by
  cases a with
  | r k =>
    cases h : st[k]? with
    | none => simp [see, h] at e
    | some c => cases q : seeC c <;> simp [see, h, q] at e
  | _ => exact e
theorem see_r {k : Nat} (e : see st a = .r k) : a = .r k := by
  cases a with
  | r k' =>
    cases h : st[k']? with
    | none => simp [see, h] at e; rw [e]
    | some c => cases q : seeC c <;> simp [see, h, q] at e; rw [e]
  | _ => exact e
end
/-- an item of a list, a tuple, a text -/
def rIdx (T : Tb) : R2 := fun x y H Q => ∃ F ι st a b d, Sim T F ι st H ∧ VRel T F ι st.length a x ∧ VRel T F ι st.length b y ∧ idxV st a b = some d ∧ mkind st a ≠ some .dict ∧ Ans T F H ι st.length d Q
theorem ix_all {X : Cx} {T : Tb} (hK : X.K = T.K) : IxR X (rIdx T) := ixr_by fun x y H Q h => by
  obtain ⟨F, ι, st, a, b, d, S, ra, rb, e, hk, A⟩ := h
  unfold idxV at e
  split at e
  · rename_i dx dy e1
    have h1 := see_seen S ra e1
    cases q : idxD dx dy with
    | none => rw [q] at e; cases e
    | some dd =>
      rw [q] at e
      cases e
      cases rb with
      | p rb =>
        unfold idxD at q
        split at q
        · cases rb
          obtain ⟨p, xs, rfl, r1, l1⟩ := h1.list S.sub
          obtain ⟨v, hv, hd⟩ := l1.at_ q
          exact ⟨_, ix_list, p, xs, _, v, rfl, rfl, .inl r1, hv, A.dat hd⟩
        · cases rb
          obtain ⟨p, xs, rfl, r1, _, l1⟩ := h1.tup S.sub
          obtain ⟨v, hv, hd⟩ := l1.at_ q
          exact ⟨_, ix_tup, p, xs, _, v, rfl, rfl, SqT.of r1, hv, A.dat hd⟩
        · cases rb
          split at q
          · rename_i z i hz
            cases h1.str
            cases q2 : atL z.cps.toList i with
            | none => rw [q2] at q; cases q
            | some c =>
              rw [q2] at q
              cases q
              exact ⟨_, ix_str, _, _, c, rfl, rfl, by rw [← SZ_eq]; exact hz, q2, A.str⟩
          · cases q
        · exact absurd (by unfold mkind; rw [e1]) hk
        · cases q
  · rename_i vs i e1
    cases see_t e1
    cases ra with
    | t h1 h2 =>
      cases rb with
      | p rb =>
        cases rb
        obtain ⟨v, hv, hd⟩ := h2.at_ e
        exact ⟨_, ix_tup, _, _, _, v, rfl, rfl, SqT.of (S.sub.tup h1), hv, A.here hd⟩
  · rename_i vs i e1
    cases see_l e1
    cases ra with
    | l h1 h2 =>
      cases rb with
      | p rb =>
        cases rb
        obtain ⟨v, hv, hd⟩ := h2.at_ e
        exact ⟨_, ix_list, _, _, _, v, rfl, rfl, .inl (S.sub.rd (.inl h1)), hv, A.here hd⟩
  · rename_i k i e1
    cases see_r e1
    split at e
    · rename_i vs e2
      split at e
      · cases ra
        cases rb with
        | p rb =>
          cases rb
          obtain ⟨_, xs, h1, h2⟩ := ml_of S e2
          obtain ⟨v, hv, hd⟩ := h2.at_ e
          exact ⟨_, ix_list, _, _, _, v, rfl, rfl, .inl (.inl h1), hv, A.here hd⟩
      · cases e
    · cases e
  · cases e
theorem valV_get {κ : Type} [DecidableEq κ] (kvs : List (κ × V)) (k : κ) : valV kvs k = (kvs.find? fun q => decide (q.1 = k)).map (·.2) := rfl
theorem DatK.val {K : PySem.W.Frag} {F : Hp} (k : Key) : ∀ {kvs : List (Key × V)} {es : List (PyData × PyData)} {d : PyData}, DatK K F kvs es → getK es (keyD k) = some d → ∃ v, valV kvs k = some v ∧ Dat K F v d
  | _, _, _, .nil, e => by cases e
  | _, _, d, .cons (k := kk) h1 h2, e => by
    unfold getK at e
    rw [valV_get]
    rw [List.find?_cons] at e ⊢
    have q := keyD_eqv kk k
    have q' : keyEq (keyD kk) (keyD k) = decide (kk = k) := q
    simp only [q'] at e
    by_cases z : kk = k
    · rw [decide_eq_true z] at e ⊢
      simp at e
      subst e
      exact ⟨_, rfl, h1⟩
    · rw [decide_eq_false z] at e ⊢
      exact DatK.val k h2 e
theorem DatT.val {K : PySem.W.Frag} {F : Hp} (k : List Key) : ∀ {kvs : List (List Key × V)} {es : List (PyData × PyData)} {d : PyData}, DatT K F kvs es → getK es (.tuple (k.map keyD)) = some d → ∃ v, valV kvs k = some v ∧ Dat K F v d
  | _, _, _, .nil, e => by cases e
  | _, _, d, .cons (k := kk) h1 h2, e => by
    unfold getK at e
    rw [valV_get]
    rw [List.find?_cons] at e ⊢
    have q' : keyEq (.tuple (kk.map keyD)) (.tuple (k.map keyD)) = decide (kk = k) := keyD_eqvAll kk k
    simp only [q'] at e
    by_cases z : kk = k
    · rw [decide_eq_true z] at e ⊢
      simp at e
      subst e
      exact ⟨_, rfl, h1⟩
    · rw [decide_eq_false z] at e ⊢
      exact DatT.val k h2 e
theorem DatK.valT {K : PySem.W.Frag} {F : Hp} (qs : List Key) : ∀ {ks : List (Key × V)} {es : List (PyData × PyData)}, DatK K F ks es → getK es (.tuple (qs.map keyD)) = none
  | _, _, .nil => rfl
  | _, _, .cons (k := k) h1 h2 => by
    unfold getK
    rw [List.find?_cons]
    have z : keyEq (keyD k) (.tuple (qs.map keyD)) = false := by cases k <;> rfl
    simp only [z]
    exact DatK.valT qs h2
theorem DatT.valK {K : PySem.W.Frag} {F : Hp} (q : Key) : ∀ {ks : List (List Key × V)} {es : List (PyData × PyData)}, DatT K F ks es → getK es (keyD q) = none
  | _, _, .nil => rfl
  | _, _, .cons (k := k) h1 h2 => by
    unfold getK
    rw [List.find?_cons]
    have z : keyEq (.tuple (k.map keyD)) (keyD q) = false := by cases q <;> rfl
    simp only [z]
    exact DatT.valK q h2
/-- what a dict of data answers -/
theorem dget_data {K : PySem.W.Frag} {F H : Hp} {x y : V} {kvs : List (PyData × PyData)} {dy d : PyData} (s : Sub F H) (h1 : SeenP K F H x (.dict kvs)) (h2 : SeenP K F H y dy) (hk : keyed dy = true) (e : getK kvs dy = some d) : ∃ a v, x = .ref a ∧ DGet H a y (some v) ∧ Dat K F v d := by
  obtain ⟨p, rfl, hd⟩ := h1.dict s
  cases dy with
  | tuple ds =>
    obtain ⟨b, xs, rfl, hb, _, l1⟩ := h2.tup s
    obtain ⟨qs, rfl, rfl⟩ := keys_of l1 hk
    rcases hd with ⟨ks, r, dk⟩ | ⟨ks, r, dt⟩
    · rw [dk.valT qs] at e
      cases e
    · obtain ⟨v, hv, hd⟩ := dt.val qs e
      exact ⟨p, v, rfl, .inr ⟨ks, qs, b, r, rfl, hb, hv.symm⟩, hd⟩
  | _ =>
    first
      | (cases hk; done)
      | skip
    all_goals
      obtain ⟨q, rfl, e2⟩ := key1_of (h2.flat rfl) hk
      rw [e2] at e
      rcases hd with ⟨ks, r, dk⟩ | ⟨ks, r, dt⟩
      · obtain ⟨v, hv, hd⟩ := dk.val q e
        exact ⟨p, v, rfl, .inl ⟨ks, q, r, rfl, hv.symm⟩, hd⟩
      · rw [dt.valK q] at e
        cases e
end Vm
end

section
/-! V8: items, slices, calls: the evaluator's steps. -/
namespace Vm
open PySem L2 PySem.Spec PyProof.Rows

section
variable {X : Cx} {T : Tb} {W : L2.WX} {Kt : Kit} {e e1 e2 e3 : Expr} {es : List Expr} {pos p2 : Pos}
theorem de_idx {a b : Ex} (hK : X.K = T.K) (hu : X.A.units + 100 < cLine) (hs : PlainIx e2) (h1 : DE X T W e1 (evalX Kt a)) (h2 : DE X T W e2 (evalX Kt b)) : DE X T W (.Subscript e1 e2 pos) (evalX Kt (.idx a b)) :=
  de_by fun σ F ι env st H Q S E p => by
    rw [evalX] at p
    have p1 := PostG.bindE (RA := RV T) p
    by_cases D : ∃ v st1 w st2, evalX Kt a env st = .ok v st1 ∧ evalX Kt b env st1 = .ok w st2 ∧ mkind st2 v = some .dict
    · refine ⟨_, pe_dget (pos := pos) (by omega) h1 h2 hs, tEvG.imp (ev_go S E p1) fun x H1 ⟨F1, ι1, v, st1, M, q1, p2⟩ => ?_⟩
      refine tEvG.imp (ev_go M.sim (E.up M.nx M.le) (PostG.bindE (RA := RV T) p2)) fun y H2 ⟨F2, ι2, w, st2, M2, q2, p3⟩ => ?_
      obtain ⟨v', st1', w', st2', k1, k2, k3⟩ := D
      rw [q1] at k1
      cases k1
      rw [q2] at k2
      cases k2
      obtain ⟨d, e, A⟩ := of_ans M2.sim p3
      have rv := M.rel.up M2.nx M2.le
      unfold idxV at e
      split at e
      · rename_i dx dy e1
        have hx := see_seen M2.sim rv e1
        cases q : idxD dx dy with
        | none => rw [q] at e; cases e
        | some dd =>
          rw [q] at e
          cases e
          have rw_ := M2.rel
          cases rw_ with
          | p rw_ =>
            cases dx with
            | dict kvs =>
              have q : (if keyed dy = true ∧ kindOK kvs dy = true then getK kvs dy else none) = some dd := by
                cases dy <;> exact q
              split at q
              · rename_i hk
                obtain ⟨p, v, rfl, g, hd⟩ := dget_data M2.sim.sub hx (.dat rw_) hk.1 q
                exact ⟨p, v, rfl, g, A.dat hd⟩
              · cases q
            | _ => unfold mkind at k3; rw [e1] at k3; cases k3
      · rename_i e1; unfold mkind at k3; rw [e1] at k3; cases k3
      · rename_i e1; unfold mkind at k3; rw [e1] at k3; cases k3
      · rename_i e1
        split at e
        · rename_i e2; unfold mkind at k3; rw [e1] at k3; simp only [e2] at k3; cases k3
        · cases e
      · cases e
    · refine ⟨_, pe_ix (pos := pos) (ix_all (T := T) hK) h1 h2 hs, tEvG.imp (ev_go S E p1) fun x H1 ⟨F1, ι1, v, st1, M, q1, p2⟩ => ?_⟩
      refine tEvG.imp (ev_go M.sim (E.up M.nx M.le) (PostG.bindE (RA := RV T) p2)) fun y H2 ⟨F2, ι2, w, st2, M2, q2, p3⟩ => ?_
      obtain ⟨d, e, A⟩ := of_ans M2.sim p3
      exact ⟨F2, ι2, st2, v, w, d, M2.sim, M.rel.up M2.nx M2.le, M2.rel, e, fun z => D ⟨v, st1, w, st2, q1, q2, z⟩, A⟩

/-! ### slices -/
abbrev DO (X : Cx) (T : Tb) (W : L2.WX) (e : Option Expr) (f : Env → Store → R (Option Int)) : Prop := PO X e (tEvG RE T W f)
theorem po_imp {e : Option Expr} {t t' : TO} (h : PO X e t) (i : ∀ σ H Q, t' σ H Q → t σ H Q) : PO X e t' := ⟨fun pins s σ H Q I q => h.run pins s σ H Q I (i _ _ _ q)⟩
theorem do_nil : DO X T W none (evalO Kt .nil) := po_imp po_none fun σ H Q hh => by
  obtain ⟨F, ι, env, st, S, E, p⟩ := hh
  rw [evalO] at p
  exact p.now (Next.refl _ _ _) (Nat.le_refl _) S rfl
theorem do_some {a b : Ex} (h1 : DE X T W e (evalX Kt a)) : DO X T W (some e) (evalO Kt (.cons a b)) := po_imp (po_some h1) fun σ H Q hh => by
  obtain ⟨F, ι, env, st, S, E, p⟩ := hh
  rw [evalO] at p
  refine tEvG.imp (ev_go S E (PostG.bind (RA := RV T) p)) fun x H1 ⟨F1, ι1, v, st1, M, p1⟩ => ?_
  split at p1
  · have r := M.rel
    cases r with
    | p r =>
      cases r
      exact ⟨_, rfl, p1.now (Next.refl _ _ _) (Nat.le_refl _) M.sim rfl⟩
  · exact p1.elim
def rSlc (T : Tb) : V → Option Int → Option Int → Hp → VK → Prop := fun x lo hi H Q => ∃ F ι st a d, Sim T F ι st H ∧ VRel T F ι st.length a x ∧ slcV st lo hi a = some d ∧ Ans T F H ι st.length d Q
theorem sl_all {X : Cx} {T : Tb} (hK : X.K = T.K) : SlR X (rSlc T) := slr_by fun x lo hi H Q h => by
  obtain ⟨F, ι, st, a, d, S, ra, e, A⟩ := h
  unfold slcV at e
  split at e
  · rename_i dx e1
    have h1 := see_seen S ra e1
    cases q : slcD lo hi dx with
    | none => rw [q] at e; cases e
    | some dd =>
      rw [q] at e
      cases e
      unfold slcD at q
      split at q
      · cases q
        obtain ⟨p, xs, rfl, r1, l1⟩ := h1.list S.sub
        exact ⟨_, sl_list, p, xs, rfl, .inl r1, A.lst S.sub (l1.cut lo hi)⟩
      · cases q
        obtain ⟨p, xs, rfl, r1, f1, l1⟩ := h1.tup S.sub
        refine ⟨_, sl_tupA, p, xs, rfl, SqT.of r1, fun z => ?_, fun _ => A.tup S.sub (l1.cut lo hi)⟩
        refine A.dat (.tup f1 ?_)
        have : cutV xs lo hi = xs := by
          unfold cutV
          rw [z.1, z.2]
          simp
        rw [← this]
        exact l1.cut lo hi
      · split at q
        · cases q
          cases h1.str
          rename_i hz
          exact ⟨_, sl_str, _, rfl, by rw [← SZ_eq]; exact hz, A.str⟩
        · cases q
      · cases q
  · rename_i vs e1
    cases see_t e1
    cases e
    cases ra with
    | t h1 h2 =>
      rename_i p xs
      refine ⟨_, sl_tupA, p, xs, rfl, SqT.of (S.sub.tup h1), fun z => ?_, fun _ => A.mkT S.sub (h2.cut lo hi)⟩
      have : cutV xs lo hi = xs := by
        unfold cutV
        rw [z.1, z.2]
        simp
      refine A.here (mkT_rel h1 ?_)
      rw [← this]
      exact h2.cut lo hi
  · rename_i vs e1
    cases see_l e1
    cases e
    cases ra with
    | l h1 h2 => exact ⟨_, sl_list, _, _, rfl, .inl (S.sub.rd (.inl h1)), A.mkL S.sub (h2.cut lo hi)⟩
  · cases e
theorem de_slc {a b c : Ex} {lo hi : Option Expr} (hK : X.K = T.K) (h1 : DE X T W e1 (evalX Kt a)) (h2 : DO X T W lo (evalO Kt b)) (h3 : DO X T W hi (evalO Kt c)) : DE X T W (.Subscript e1 (.Slice lo hi none p2) pos) (evalX Kt (.slc a b c)) :=
  de_by fun σ F ι env st H Q S E p => by
    rw [evalX] at p
    refine ⟨_, pe_slice (p2 := p2) (pos := pos) (sl_all (T := T) hK) h1 h2 h3, tEvG.imp (ev_go S E (PostG.bind (RA := RV T) p)) fun x H1 ⟨F1, ι1, v, st1, M, p1⟩ => ?_⟩
    have E1 := E.up M.nx M.le
    refine tEvG.imp (ev_go M.sim E1 (PostG.bind (RA := RE) p1)) fun i H2 ⟨F2, ι2, i', st2, M2, p2⟩ => ?_
    have hi' : i' = i := M2.rel
    subst hi'
    refine tEvG.imp (ev_go M2.sim (E1.up M2.nx M2.le) (PostG.bind (RA := RE) p2)) fun j H3 ⟨F3, ι3, j', st3, M3, p3⟩ => ?_
    have hj' : j' = j := M3.rel
    subst hj'
    obtain ⟨d, e, A⟩ := of_ans M3.sim p3
    exact ⟨F3, ι3, st3, v, d, M3.sim, (M.rel.up M2.nx M2.le).up M3.nx M3.le, e, A⟩
theorem seqL_seen {F H : Hp} {ι : Nat → Addr} {st : Store} {a : Val} {x : V} {vs : List Val} (S : Sim T F ι st H) (r : VRel T F ι st.length a x) (e : seqL st a = some vs) : ∃ p xs, x = .ref p ∧ Rd H p (.lst xs) ∧ VRelL T F ι st.length vs xs := by
  unfold seqL at e
  split at e
  · rename_i ds e1
    cases e
    obtain ⟨p, xs, rfl, r1, l1⟩ := (see_seen S r e1).list S.sub
    exact ⟨p, xs, rfl, r1, .ofDat l1⟩
  · rename_i ws e1
    cases see_l e1
    cases e
    cases r with
    | l h1 h2 => exact ⟨_, _, rfl, S.sub.rd (.inl h1), h2⟩
  · rename_i k e1
    cases see_r e1
    split at e
    · rename_i ws e2
      cases e
      cases r
      obtain ⟨_, xs, h1, h2⟩ := ml_of S e2
      exact ⟨_, xs, rfl, .inl h1, h2⟩
    · cases e
  · cases e
/-- a slice of a list, as a cell -/
theorem de_cut {f : Nat} {a b c : Ex} {lo hi : Option Expr} (h1 : DE X T W e1 (evalX Kt a)) (h2 : DO X T W lo (evalO Kt b)) (h3 : DO X T W hi (evalO Kt c)) : DE X T W (.Subscript e1 (.Slice lo hi none p2) pos) (evalX Kt (.cut f a b c)) :=
  de_by fun σ F ι env st H Q S E p => by
    rw [evalX] at p
    refine ⟨_, pe_slice (p2 := p2) (pos := pos) sl_list h1 h2 h3, tEvG.imp (ev_go S E (PostG.bind (RA := RV T) p)) fun x H1 ⟨F1, ι1, v, st1, M, p1⟩ => ?_⟩
    have E1 := E.up M.nx M.le
    refine tEvG.imp (ev_go M.sim E1 (PostG.bind (RA := RE) p1)) fun i H2 ⟨F2, ι2, i', st2, M2, p2⟩ => ?_
    have hi' : i' = i := M2.rel
    subst hi'
    refine tEvG.imp (ev_go M2.sim (E1.up M2.nx M2.le) (PostG.bind (RA := RE) p2)) fun j H3 ⟨F3, ι3, j', st3, M3, p3⟩ => ?_
    have hj' : j' = j := M3.rel
    subst hj'
    cases q : seqL st3 v with
    | none => rw [q] at p3; exact p3.elim
    | some vs =>
      rw [q] at p3
      obtain ⟨p, xs, rfl, r1, l1⟩ := seqL_seen M3.sim ((M.rel.up M2.nx M2.le).up M3.nx M3.le) q
      exact ⟨p, xs, rfl, .inl r1, alloc_post M3.sim (l1.cut i' j') p3⟩
/-- a sum of two lists, as a cell -/
theorem de_cat {f : Nat} {a b : Ex} (h1 : DE X T W e1 (evalX Kt a)) (h2 : DE X T W e2 (evalX Kt b)) : DE X T W (.BinOp e1 .Add e2 pos) (evalX Kt (.cat f a b)) :=
  de_by fun σ F ι env st H Q S E p => by
    rw [evalX] at p
    refine ⟨_, pe_op (pos := pos) op_catR h1 h2, tEvG.imp (ev_go S E (PostG.bind (RA := RV T) p)) fun x H1 ⟨F1, ι1, v, st1, M, p1⟩ => ?_⟩
    refine tEvG.imp (ev_go M.sim (E.up M.nx M.le) (PostG.bind (RA := RV T) p1)) fun y H2 ⟨F2, ι2, w, st2, M2, p2⟩ => ?_
    split at p2
    · rename_i xs ys k1 k2
      split at p2
      · rename_i hz
        obtain ⟨p, us, rfl, r1, l1⟩ := asL_seen M2.sim (M.rel.up M2.nx M2.le) k1
        obtain ⟨p', us', rfl, r2, l2⟩ := asL_seen M2.sim M2.rel k2
        exact ⟨p, p', us, us', rfl, rfl, r1, r2, by rw [← l1.length, ← l2.length, ← SZ_eq]; exact hz, alloc_post M2.sim (l1.append l2) p2⟩
      · exact p2.elim
    · exact p2.elim
end
end Vm
end

section
/-! V9: what a def promises, where no guard stands. -/
namespace Vm
open PySem L2 PySem.Spec PyProof.Rows

/-- L2.FnOk, asked only where no repr runs -/
structure FnG (P : Program) (w : World) (K : PySem.W.Frag) (mg : Str → Option Value) (base : Heap) (k : Nat) (f : Addr) (fd : FuncData) (ps : List Str) (sp : Sp) : Prop where
  len : ∀ vs H Q E, sp vs H Q E → vs.length = ps.length
  run : ∀ (A : Around) (outer : List PySem.Env) (s : Shared) (H : Hp) (args : Args) (us : List Value) (vs : List V) (Q : VK) (E : XK), Room k A → A.guards = some [] → Env0 P w K mg base A outer s H → BindsTo s fd args (ps.zip us) → Vals vs us → sp vs H Q E →
    codeAny (model P w) A (.call (.ref f) args) (CR (L2.CX P w) outer P w H s Q E) s
section
variable {X : Cx} {k : Nat} {f C : Addr} {fd : FuncData} {ps : List Str} {sp : Sp} {E : L2.St → XK} {x m : Str} {p pos apos : Pos} {e o : Expr} {es : List Expr} {ta : TE} {t : TA}
theorem run_fnG {pins : List (Addr × Obj)} {σ : L2.St} {H : Hp} {s : Shared} {Q : VK} {us : List Value} {vs : List V} (F : FnG X.prog X.w X.K X.mg X.base k f fd ps sp) (hr : Room k X.A) (hG : X.A.guards = some []) (hb : Binds X.K fd ps []) (hx : PassesAt (L2.CX X.prog X.w) X σ (E σ))
    (I : Inv X pins σ H s) (r : Vals vs us) (h : sp vs H Q (E σ)) : wpAny (model X.prog X.w) X.A (call (.ref f) us) (EP X pins σ Q) X.xe s := by
  have hl : us.length = ps.length := by rw [← r.length]; exact F.len _ _ _ _ h
  have b := hb s us I.kIn (by rw [List.append_nil]; exact hl)
  rw [List.append_nil] at b
  refine wpAny_call (codeAny_mono (F.run X.A X.stack s H ⟨us, []⟩ us vs Q (E σ) hr hG I.env0 b r h) fun r s' hq => ?_)
  cases r with
  | error e => exact hx pins H s e s' I hq
  | ok fl =>
    cases fl with
    | ret u => exact I.after hq
    | next => exact False.elim hq
    | brk => exact False.elim hq
    | cont => exact False.elim hq
theorem pe_callG (F : FnG X.prog X.w X.K X.mg X.base k f fd ps sp) (hr : Room k X.A) (hG : X.A.guards = some []) (hg : Gl X x) (hm : X.mg x = some (.ref f)) (hk : PySem.W.keepIn X.K (.ref f) = true) (hb : Binds X.K fd ps []) (hx : ∀ σ, PassesAt (L2.CX X.prog X.w) X σ (E σ))
    (ha : PA X (e :: es) t) (hdb : (x == ("__debug__" : Str)) = false := by decide) (he : starEach (e :: es) X.env = (false, eval e X.env) :: starEach es X.env := by rfl) (hpl : (backTo pos (starEach es X.env)).any (·.1) = false := by rfl) :
    PE X (.Call (.Name x p) (e :: es) [] pos) (tCallS sp E t) := by
  refine ⟨fun pins s σ H Q I h => ?_⟩
  refine wpAny_Call_Name_kw (ld_glob I hg hm ?_ hdb)
  refine PySem.W.callWith_K (h₀ := X.base) I.ok.mod.kin hk (thn (ha.run pos pins s σ H _ I h) fun us s1 ⟨vs, H1, I1, r, q⟩ => ⟨I1.kIn, ?_⟩) he hpl
  exact run_fnG F hr hG hb (hx σ) I1 r q
end
theorem fnG_of {P : Program} {w : World} {K : PySem.W.Frag} {mg : Str → Option Value} {base : Heap} {k : Nat} {f : Addr} {name qual : Str} {params : Arguments} {body : List Stmt} {scope : Scope} {dV kV doc pm cdv ct oc : Value} {an od : Option Addr}
    {osl : Array (Option Value)} {N ps : List Str} {sp : Sp} (lk : K.lookup f = some ⟨oc, od, .func (PySem.W.fnOf name qual params body scope dV kV doc pm an cdv ct), osl⟩) (hcd : PySem.W.codeIn K cdv qual = true) (S : FnScope N ps scope)
    (len : ∀ vs H Q E, sp vs H Q E → vs.length = ps.length)
    (hbody : ∀ (A : Around) (outer : List PySem.Env) (s : Shared) (H : Hp) (vs : List V) (Q : VK) (E : XK), Room k (A.deeper (envOfC qual scope s.heap.objs.size f cdv)) → A.guards = some [] → sp vs H Q E →
      ∃ t, PSs (cxOf (L2.CX P w) P w K mg base N qual scope f cdv A outer s H E) body t ∧ t { nx := fun _ H' => Q .non H', rt := Q } (start N vs) H) :
    FnG P w K mg base (k + 1) f (PySem.W.fnOf name qual params body scope dV kV doc pm an cdv ct) ps sp := by
  refine ⟨len, fun A outer s H args us vs Q E hr hG e0 hb r hsp => ?_⟩
  have hl := len _ _ _ _ hsp
  have KX : K.In s.heap := e0.mod.kin.keeps fun b o e => (e0.bs b o e).1
  have lim : s.heap.NoLimit := e0.mod.nolimit.keeps fun b o e => (e0.bs b o e).1
  have hkind : ∀ y ∈ ps.zip us, scope.names.lookup y.1 = some .local ∨ (scope.names.lookup y.1 = some .cell ∧ ((cellsFrom (s.heap.objs.size + 1) scope.names []).lookup y.1).isSome = true) := fun ⟨n, v⟩ hy => by
    rcases S.par n (List.of_mem_zip hy).1 with q | q
    · exact .inl q
    · exact .inr ⟨q, PySem.W.cellsFrom_some _ _ _ (.inl q)⟩
  refine codeAny_call_function hr.depth (KX _ _ lk) rfl S.co S.gen rfl (PySem.W.codeRec_of KX hcd) (hb _ _ _ _ ?_)
  refine wpAny_newFunctionEnv_cells S.kind hkind fun env he s1 x => ?_
  subst he
  refine ⟨lim.keeps x.toInCall.keep, codeAny_func ?_⟩
  obtain ⟨t, ht, hq⟩ := hbody A outer s H vs Q E (hr.deeper _) hG hsp
  have I : Inv (cxOf (L2.CX P w) P w K mg base N qual scope f cdv A outer s H E) [] (start N vs) H s1 := inv_start S hr.hd e0 hl r x
  refine wpAny_mono (ht.run [] s1 (start N vs) H _ I hq) (fun fl s' hs => ?_) fun e s' hs => hs
  have fin : ∀ {σ' : L2.St} {H' : Hp} {v : V} {u : Value}, Inv (cxOf (L2.CX P w) P w K mg base N qual scope f cdv A outer s H E) [] σ' H' s' → RelV v u → Q v H' → CE outer P w H s Q u s' :=
    fun {σ' H' v u} J rv q => ⟨v, H', J.os, J.bare, J.base, J.hok, rv, q⟩
  cases fl with
  | ret u =>
    obtain ⟨v, σ', H', J, rv, q⟩ := hs
    exact fin J rv q
  | next =>
    obtain ⟨σ', H', J, q⟩ := hs
    exact fin (v := V.non) (u := Value.none) J rfl q
  | brk =>
    obtain ⟨_, _, _, q⟩ := hs
    exact False.elim q
  | cont =>
    obtain ⟨_, _, _, q⟩ := hs
    exact False.elim q
theorem Fun.okG {P : Program} {w : World} {K : PySem.W.Frag} {mg : Str → Option Value} {base : Heap} {x qual : Str} {st : Stmt} {f : Addr} {fd : FuncData} {N ps : List Str} {k : Nat} {sp : Sp} (F : L2.Fun K x qual st f fd) (S : FnScope N ps (defScope st)) (len : ∀ vs H Q E, sp vs H Q E → vs.length = ps.length)
    (hbody : ∀ (cdv : Value) (A : Around) (outer : List PySem.Env) (s : Shared) (H : Hp) (vs : List V) (Q : VK) (E : XK), Room k (A.deeper (envOfC qual (defScope st) s.heap.objs.size f cdv)) → A.guards = some [] → sp vs H Q E →
      ∃ t, PSs (cxOf (L2.CX P w) P w K mg base N qual (defScope st) f cdv A outer s H E) (defBody st) t ∧ t { nx := fun _ H' => Q .non H', rt := Q } (start N vs) H) : FnG P w K mg base (k + 1) f fd ps sp := by
  obtain ⟨oc, od, kV, doc, pm, an, cdv, ct, osl, rfl, lk, hcd⟩ := F.ex
  exact fnG_of lk hcd S len fun A outer s H vs Q E hr hG hsp => hbody cdv A outer s H vs Q E hr hG hsp
/-- the call of the law, from a heap that tracks at most the script -/
theorem law_core {P : Program} {w : World} {K : PySem.W.Frag} {mg mb : Str → Option Value} {k : Nat} {fa a : Addr} {fd : FuncData} {x : Str} {sp : Sp} {s₁ : Shared} {vs : List Value}
    (KX : K.In s₁.heap) (hns : s₁.heap.Ns mainGlobals mg) (hb : s₁.heap.Ns builtinsNs mb) (hbb : ∀ x : Str, x ≠ "__name__" → mb x = bootBuiltins x) (hlim : s₁.heap.NoLimit) (hg : s₁.gens = #[])
    (ha : s₁.heap.get? a = some { cls := .type "list", data := .seq vs.toArray }) (hr : Room k callerA)
    (F : ∀ base : Heap, K.In base → base.Ns mainGlobals mg → FnG P w K mg base k fa fd [x] sp) (hbind : ∀ (s : Shared) (u : Value), BindsTo s fd ⟨[u], []⟩ [(x, u)])
    (hCX : ∀ H e s', L2.CX P w [] H s₁ (fun _ _ _ => False) e s' → False) (H : Hp) (hO : Only H) (hq : sp [.ref a] H (fun v _ => v = .bl true) fun _ _ _ => False) (hok : HOk P w H s₁.heap) (hA : ∀ b, H b ≠ none → b = a) (hK : H a ≠ none → K.lookup a = none) :
      codeAny (model P w) callerA (.call (.ref fa) ⟨[.ref a], []⟩) (fun r s' => r = .ok (.ret (.bool true)) ∧ OldK s₁.heap s'.heap ∧ s'.os = s₁.os ∧ AllBare s'.gens) s₁ := by
  have base_of : ∀ {b : Addr} {o : Obj}, s₁.heap.get? b = some o → H b = none → (hidT s₁.heap H).get? b = some o := fun e n => hidT_get e n
  have noA : ∀ {b : Addr} {o : Obj} {es : Array DictEntry} {ep : Nat}, s₁.heap.get? b = some o → o.data = .dict es ep → H b = none := fun {b o es ep} e d => by
    cases q : H b with
    | none => rfl
    | some u =>
      have e' : b = a := hA b (by rw [q]; simp)
      subst e'
      rw [ha] at e; cases e
      have d' : Data.seq vs.toArray _ = Data.dict es ep := d
      cases d'
  have nsK : ∀ {b : Addr} {m : Str → Option Value}, s₁.heap.Ns b m → (hidT s₁.heap H).Ns b m := fun {b m} ⟨o, es, ep, e, d, r⟩ => ⟨o, es, ep, base_of e (noA e d), d, r⟩
  have hKb : K.In (hidT s₁.heap H) := fun b o e => base_of (KX b o e) (by
    cases q : H b with
    | none => rfl
    | some u =>
      have e' : b = a := hA b (by rw [q]; simp)
      subst e'
      rw [hK (by rw [q]; simp)] at e; cases e)
  have hM : Mod K mg (hidT s₁.heap H) := ⟨hKb, nsK hns, ⟨mb, nsK hb, hbb⟩, let ⟨mc, h1, h2⟩ := hlim; ⟨mc, nsK h1, h2⟩⟩
  have e0 : Env0 P w K mg (hidT s₁.heap H) callerA [] s₁ H := ⟨rfl, hM, fun b o e => of_hidT e, Nat.le_of_eq (hidT_size _ _), trivial, fun b hb => absurd (show b ∈ ([] : List Addr) from hb) (by simp), hok, .of_eq hg⟩
  refine codeAny_mono ((F _ hKb (nsK hns)).run callerA [] s₁ H ⟨[.ref a], []⟩ [.ref a] [.ref a] _ _ hr rfl e0 (hbind s₁ (.ref a)) (.cons rfl .nil) hq) fun r s' h => ?_
  cases r with
  | error e => exact (hCX H e s' h).elim
  | ok fl =>
    cases fl with
    | next => exact False.elim h
    | brk => exact False.elim h
    | cont => exact False.elim h
    | ret u =>
      obtain ⟨v, H', os, bare, un, hok', r', q⟩ := h
      have q' : v = .bl true := q
      subst q'
      obtain rfl : u = Value.bool true := r'
      refine ⟨rfl, OldK.of_keep fun b o e => ?_, os, bare⟩
      cases q : H b with
      | none => exact un.keep b o e q (by intro z; exact absurd (show b ∈ ([] : List Addr) from z) (by simp)) (by simp)
      | some u =>
        rcases hO b with z | ⟨ob, xs, z⟩
        · rw [q] at z; cases z
        · have z2 := un.frzs b ob _ z
          obtain ⟨e1, _⟩ := hok b _ z
          obtain ⟨e2, _⟩ := hok' b _ z2
          rw [e] at e1; cases e1
          exact e2
/-- the head's end, with our promise -/
theorem law_callG {P : Program} {w : World} {K : PySem.W.Frag} {mg mb : Str → Option Value} {k : Nat} {fa a : Addr} {fd : FuncData} {x : Str} {sp : Sp} {s₁ : Shared} {vs : List Value} {ns : List Int}
    (KX : K.In s₁.heap) (hns : s₁.heap.Ns mainGlobals mg) (hb : s₁.heap.Ns builtinsNs mb) (hbb : ∀ x : Str, x ≠ "__name__" → mb x = bootBuiltins x) (hlim : s₁.heap.NoLimit) (hg : s₁.gens = #[])
    (ha : s₁.heap.get? a = some { cls := .type "list", data := .seq vs.toArray }) (hi : IntsAre vs ns) (hl : ns.length ≤ sizeLine) (hr : Room k callerA)
    (F : ∀ base : Heap, K.In base → base.Ns mainGlobals mg → FnG P w K mg base k fa fd [x] sp) (hbind : ∀ (s : Shared) (u : Value), BindsTo s fd ⟨[u], []⟩ [(x, u)])
    (hsp : ∀ H : Hp, Only H → SqL K H a (ns.map V.int) → sp [.ref a] H (fun v _ => v = .bl true) fun _ _ _ => False)
    (hCX : ∀ H e s', L2.CX P w [] H s₁ (fun _ _ _ => False) e s' → False) :
    codeAny (model P w) callerA (.call (.ref fa) ⟨[.ref a], []⟩) (fun r s' => r = .ok (.ret (.bool true)) ∧ OldK s₁.heap s'.heap ∧ s'.os = s₁.os ∧ AllBare s'.gens) s₁ := by
  have rv := vals_ints hi
  have lenV := hi.length
  have core : ∀ H : Hp, Only H → SqL K H a (ns.map V.int) → HOk P w H s₁.heap → (∀ b, H b ≠ none → b = a) → (H a ≠ none → K.lookup a = none) →
      codeAny (model P w) callerA (.call (.ref fa) ⟨[.ref a], []⟩) (fun r s' => r = .ok (.ret (.bool true)) ∧ OldK s₁.heap s'.heap ∧ s'.os = s₁.os ∧ AllBare s'.gens) s₁ := fun H hO hS hok hA hK =>
    law_core KX hns hb hbb hlim hg ha hr F hbind hCX H hO (hsp H hO hS) hok hA hK
  cases hk : K.lookup a with
  | some o =>
    have e := KX a o hk
    rw [ha] at e
    cases e
    refine core (fun _ => none) (fun _ => .inl rfl) (.inr ⟨_, vs.toArray, _, hk, rfl, rfl, rfl, by rw [List.size_toArray, lenV]; exact hl, by simpa using rv⟩) (fun b u z => by have z' : (none : Option HO) = some u := z; cases z') (fun b z => absurd rfl z) fun z => absurd rfl z
  | none =>
    refine core (fun b => if b = a then some (.frz { cls := .type "list", data := .seq vs.toArray } (.lst (ns.map V.int))) else none) (fun b => ?_) (.inl (.inr ⟨{ cls := .type "list", data := .seq vs.toArray }, if_pos rfl⟩)) (fun b u z => ?_) (fun b z => ?_) fun _ => hk
    · by_cases hb : b = a
      · exact .inr ⟨_, _, if_pos hb⟩
      · exact .inl (if_neg hb)
    · by_cases hb : b = a
      · have z' := (if_pos hb).symm.trans z
        cases z'
        subst hb
        exact ⟨ha, by rw [List.length_map]; exact hl, vs, _, rv, ha⟩
      · have z' := (if_neg hb).symm.trans z
        cases z'
    · by_cases hb : b = a
      · exact hb
      · exact absurd (if_neg hb) z
theorem cx_none {P : Program} {w : World} {H : Hp} {s : Shared} {e : Value} {s' : Shared} (h : L2.CX P w [] H s (fun _ _ _ => False) e s') : False := by
  obtain ⟨_, _, _, _, _, _, _, _, _, _, _, _, z⟩ := h
  exact z
theorem walk_ofG {l : PySem.W.OpenLaw} {n k : Nat} {q : Program} {loose : List Str} {XP : (Str → Option Value) → Heap → Prop} {YP : World → Heap → Prop} {d : DefRec} {x : Str}
    (hn : l.most = some n) (hn2 : n ≤ sizeLine) (hdf : d.params.defaults = []) (hr : Room k callerA)
    (F : ∀ (w : World) (mg : Str → Option Value) (fa : Addr) (h : Heap), YP w h → h.Ns mainGlobals mg → mg d.name = some (.ref fa) →
      ∃ (K : PySem.W.Frag) (fd : FuncData) (sp : Sp), K.In h ∧ (∀ (s : Shared) (u : Value), BindsTo s fd ⟨[u], []⟩ [(x, u)]) ∧
        (∀ (H : Hp) (a : Addr) (ns : List Int), ns.length ≤ n → Only H → SqL K H a (ns.map V.int) → sp [.ref a] H (fun v _ => v = .bl true) fun _ _ _ => False) ∧
        ∀ base : Heap, K.In base → base.Ns mainGlobals mg → FnG l.prog w K mg base k fa fd [x] sp) :
    PySem.W.WalkO q loose XP YP l.row.toRowW d [] (fun f vs => PySem.call f vs) := by
  refine Att.attach_call hn hdf fun w s₀ s₁ mg mb fa o pm cd doc a vs ns G Y ho hd hcd hmg hobj hints hlen hg => ?_
  obtain ⟨K, fd, sp, KX, hb, hsp, hF⟩ := F w mg fa _ Y G.T.g hmg
  exact law_callG KX G.T.g G.T.b G.T.builtins G.T.nolimit hg hobj hints (Nat.le_trans hlen hn2) hr hF hb (fun H hO hS => hsp H a ns hlen hO hS) fun H e s' => cx_none
end Vm
end

section
/-! V10: built-ins by their values. -/
namespace Vm
open PySem L2 PySem.Spec PyProof.Rows

section
variable {T : Tb} {K : PySem.W.Frag} {F F' H H' : Hp} {ι : Nat → Addr} {n : Nat} {st : Store} {x y z : V} {a b c : Val} {d e : PyData} {Q : VK}
theorem VRelL.one {v : Val} {xs : List V} (h : VRelL T F ι n [v] xs) : ∃ x, xs = [x] ∧ VRel T F ι n v x := by
  cases h with
  | cons h1 h2 => cases h2; exact ⟨_, rfl, h1⟩
theorem VRelL.two {v w : Val} {xs : List V} (h : VRelL T F ι n [v, w] xs) : ∃ x y, xs = [x, y] ∧ VRel T F ι n v x ∧ VRel T F ι n w y := by
  cases h with
  | cons h1 h2 =>
    obtain ⟨y, rfl, h3⟩ := h2.one
    exact ⟨_, _, rfl, h1, h3⟩
/-- read with mixed lists -/
theorem seeM_p (S : Sim T F ι st H) (r : VRel T F ι st.length a x) (e : seeM st a = .p d) : SeenP T.K F H x d := by
  unfold seeM at e
  split at e
  · split at e <;> cases e
  · exact see_seen S r e
theorem seeM_l {xs : List Val} (S : Sim T F ι st H) (r : VRel T F ι st.length a x) (e : seeM st a = .l xs) : ∃ p ys, x = .ref p ∧ Rd H p (.lst ys) ∧ VRelL T F ι st.length xs ys := by
  unfold seeM at e
  split at e
  · rename_i k hk
    split at e
    · rename_i vs hv
      cases e
      cases see_r hk
      cases r with
      | r hl =>
        obtain ⟨_, ys, h1, h2⟩ := ml_of S hv
        exact ⟨_, ys, rfl, .inl h1, h2⟩
    · cases e
  · cases see_l e
    cases r with
    | l h1 h2 => exact ⟨_, _, rfl, S.sub.rd (.inl h1), h2⟩
theorem seeM_t {xs : List Val} (S : Sim T F ι st H) (r : VRel T F ι st.length a x) (e : seeM st a = .t xs) : ∃ p ys, x = .ref p ∧ H p = some (.tup ys) ∧ F p = some (.tup ys) ∧ VRelL T F ι st.length xs ys := by
  unfold seeM at e
  split at e
  · rename_i k hk
    split at e <;> cases e
  · cases see_t e
    cases r with
    | t h1 h2 => exact ⟨_, _, rfl, S.sub.tup h1, h1, h2⟩
theorem Ans.newL {vs : List Val} {xs : List V} (h : Ans T F H ι n (.l vs) Q) (s : Sub F H) (r : VRelL T F ι n vs xs) : ∀ p, H p = none → Q (.ref p) (upd H p (.lst xs)) := fun p hp =>
  h _ _ _ (FX.one hp s) (.l upd_same (r.up (FX.one (o := .lst xs) hp s).next (Nat.le_refl _)))
theorem Ans.newT {vs : List Val} {xs : List V} (h : Ans T F H ι n (.t vs) Q) (s : Sub F H) (r : VRelL T F ι n vs xs) : ∀ p, H p = none → Q (.ref p) (upd H p (.tup xs)) := fun p hp =>
  h _ _ _ (FX.one hp s) (.t upd_same (r.up (FX.one (o := .tup xs) hp s).next (Nat.le_refl _)))
theorem DatL.bools : ∀ {ds : List PyData} {bs : List Bool} {xs : List V}, DatL K F xs ds → boolsOf ds = some bs → xs = bs.map V.bl
  | [], _, _, .nil, e => by cases e; rfl
  | .bool b :: ds, bs, _, .cons h1 h2, e => by
    cases h1
    cases q : boolsOf ds with
    | none => rw [boolsOf, q] at e; cases e
    | some cs =>
      rw [boolsOf, q] at e
      cases e
      rw [DatL.bools h2 q]
      rfl
  | .none :: _, _, _, .cons _ _, e => by cases e
  | .int _ :: _, _, _, .cons _ _, e => by cases e
  | .str _ :: _, _, _, .cons _ _, e => by cases e
  | .list _ :: _, _, _, .cons _ _, e => by cases e
  | .tuple _ :: _, _, _, .cons _ _, e => by cases e
  | .dict _ :: _, _, _, .cons _ _, e => by cases e
theorem DatL.intsOf : ∀ {ds : List PyData} {bs : List Int} {xs : List V}, DatL K F xs ds → intsOf ds = some bs → xs = bs.map V.int
  | [], _, _, .nil, e => by cases e; rfl
  | .int b :: ds, bs, _, .cons h1 h2, e => by
    cases h1
    cases q : Vm.intsOf ds with
    | none => rw [Vm.intsOf, q] at e; cases e
    | some cs =>
      rw [Vm.intsOf, q] at e
      cases e
      rw [DatL.intsOf h2 q]
      rfl
  | .none :: _, _, _, .cons _ _, e => by cases e
  | .bool _ :: _, _, _, .cons _ _, e => by cases e
  | .str _ :: _, _, _, .cons _ _, e => by cases e
  | .list _ :: _, _, _, .cons _ _, e => by cases e
  | .tuple _ :: _, _, _, .cons _ _, e => by cases e
  | .dict _ :: _, _, _, .cons _ _, e => by cases e
theorem DatL.strsOf : ∀ {ds : List PyData} {bs : List Str} {xs : List V}, DatL K F xs ds → strsOf ds = some bs → xs = bs.map V.str
  | [], _, _, .nil, e => by cases e; rfl
  | .str b :: ds, bs, _, .cons h1 h2, e => by
    cases h1
    cases q : Vm.strsOf ds with
    | none => rw [Vm.strsOf, q] at e; cases e
    | some cs =>
      rw [Vm.strsOf, q] at e
      cases e
      rw [DatL.strsOf h2 q]
      rfl
  | .none :: _, _, _, .cons _ _, e => by cases e
  | .bool _ :: _, _, _, .cons _ _, e => by cases e
  | .int _ :: _, _, _, .cons _ _, e => by cases e
  | .list _ :: _, _, _, .cons _ _, e => by cases e
  | .tuple _ :: _, _, _, .cons _ _, e => by cases e
  | .dict _ :: _, _, _, .cons _ _, e => by cases e
theorem DatK.keys : ∀ {kvs : List (Key × V)} {es : List (PyData × PyData)}, DatK K F kvs es → DatL K F (kvs.map fun kv => kV kv.1) (es.map (·.1))
  | _, _, .nil => .nil
  | _, _, .cons (k := k) _ h => .cons (by cases k with | inl i => exact .int i | inr x => exact .str x) (DatK.keys h)
end
/-- what a built-in answers -/
def rBi (T : Tb) (b : Bi) : List V → Hp → VK → Prop := fun xs H Q => ∃ F ι st vs d, Sim T F ι st H ∧ VRelL T F ι st.length vs xs ∧ biV b vs st = some d ∧ Ans T F H ι st.length d Q
section
variable {T : Tb} {b : Bi} {xs : List V} {H : Hp} {Q : VK}
/-- .. by cases -/
theorem rBi.cases (h : rBi T b xs H Q) : (∃ F ι st x d d', Sim T F ι st H ∧ xs = [x] ∧ SeenP T.K F H x d ∧ biD b d = some d' ∧ Ans T F H ι st.length (.p d') Q) ∨
    (∃ F ι st vs p ys, Sim T F ι st H ∧ xs = [.ref p] ∧ VRelL T F ι st.length vs ys ∧ (Rd H p (.lst ys) ∨ H p = some (.tup ys)) ∧
      ((b = .len ∧ Ans T F H ι st.length (.p (.int vs.length)) Q) ∨ (b = .list ∧ Ans T F H ι st.length (.l vs) Q) ∨ (b = .tuple ∧ Ans T F H ι st.length (.t vs) Q ∧ (H p = some (.tup ys) → F p = some (.tup ys))))) ∨
    (∃ F ι st i j, Sim T F ι st H ∧ xs = [.int i, .int j] ∧ ((b = .min2 ∧ Ans T F H ι st.length (.p (.int (if j < i then j else i))) Q) ∨ (b = .max2 ∧ Ans T F H ι st.length (.p (.int (if j > i then j else i))) Q))) := by
  obtain ⟨F, ι, st, vs, d, S, r, e, A⟩ := h
  unfold biV at e
  split at e
  · rename_i v
    obtain ⟨x, rfl, rx⟩ := r.one
    split at e
    · rename_i dv q
      cases q2 : biD b dv with
      | none => rw [q2] at e; cases e
      | some d' =>
        rw [q2] at e
        cases e
        exact .inl ⟨F, ι, st, x, dv, d', S, rfl, seeM_p S rx q, q2, A⟩
    · rename_i ws q
      obtain ⟨p, ys, rfl, h1, h2⟩ := seeM_l S rx q
      refine .inr (.inl ⟨F, ι, st, ws, p, ys, S, rfl, h2, .inl h1, ?_⟩)
      split at e
      · cases e; exact .inl ⟨rfl, A⟩
      · cases e; exact .inr (.inl ⟨rfl, A⟩)
      · cases e
        refine .inr (.inr ⟨rfl, A, fun z => ?_⟩)
        rcases h1 with h1 | ⟨o, h1⟩ <;> (rw [z] at h1; cases h1)
      · cases e
    · rename_i ws q
      obtain ⟨p, ys, rfl, h1, h3, h2⟩ := seeM_t S rx q
      refine .inr (.inl ⟨F, ι, st, ws, p, ys, S, rfl, h2, .inr h1, ?_⟩)
      split at e
      · cases e; exact .inl ⟨rfl, A⟩
      · cases e; exact .inr (.inl ⟨rfl, A⟩)
      · cases e
        exact .inr (.inr ⟨rfl, A, fun _ => h3⟩)
      · cases e
    · cases e
  · obtain ⟨x, y, rfl, r1, r2⟩ := r.two
    cases r1 with
    | p r1 =>
      cases r2 with
      | p r2 =>
        cases r1
        cases r2
        refine .inr (.inr ⟨F, ι, st, _, _, S, rfl, ?_⟩)
        split at e
        · cases e; exact .inl ⟨rfl, A⟩
        · cases e; exact .inr ⟨rfl, A⟩
        · cases e
  · cases e
end
section
variable {X : Cx} {T : Tb} {xs : List V} {H : Hp} {Q : VK}
theorem lenK {K : PySem.W.Frag} {F : Hp} : ∀ {kvs : List (Key × V)} {es : List (PyData × PyData)}, DatK K F kvs es → kvs.length = es.length
  | _, _, .nil => rfl
  | _, _, .cons _ h => by simp [lenK h]
theorem lenT {K : PySem.W.Frag} {F : Hp} : ∀ {kvs : List (List Key × V)} {es : List (PyData × PyData)}, DatT K F kvs es → kvs.length = es.length
  | _, _, .nil => rfl
  | _, _, .cons _ h => by simp [lenT h]

/-- one value -/
theorem cb_one {b : Bi} {f : Value} (hl : b ≠ .len ∧ b ≠ .list ∧ b ≠ .tuple ∧ b ≠ .min2 ∧ b ≠ .max2) (h : ∀ F ι st x d d' H Q, Sim T F ι st H → SeenP T.K F H x d → biD b d = some d' → Ans T F H ι st.length (.p d') Q → ∃ r, CallR X f r ∧ r [x] H Q) : CallR X f (rBi T b) := callr_by fun xs H Q hh => by
  rcases hh.cases with ⟨F, ι, st, x, d, d', S, rfl, s, e, A⟩ | ⟨F, ι, st, vs, p, ys, S, rfl, s, e, ⟨k, A⟩ | ⟨k, A⟩ | ⟨k, A, _⟩⟩ | ⟨F, ι, st, i, j, S, rfl, ⟨k, A⟩ | ⟨k, A⟩⟩
  · exact h F ι st x d d' H Q S s e A
  · exact absurd k hl.1
  · exact absurd k hl.2.1
  · exact absurd k hl.2.2.1
  · exact absurd k hl.2.2.2.1
  · exact absurd k hl.2.2.2.2
theorem cb_abs : CallR X (.builtin "abs") (rBi T .abs) := cb_one (by decide) fun F ι st x d d' H Q S s e A => by
  cases d with
  | int i => cases e; cases s.int; exact ⟨_, call_abs, _, rfl, A.int⟩
  | _ => cases e
theorem cb_int : CallR X (.type "int") (rBi T .int) := cb_one (by decide) fun F ι st x d d' H Q S s e A => by
  cases d with
  | int i => cases e; cases s.int; exact ⟨_, call_int1, .inl ⟨_, rfl, A.int⟩⟩
  | bool i => cases e; cases s.bl; exact ⟨_, call_int1, .inr ⟨_, rfl, A.int⟩⟩
  | str z =>
    have e : (if z.length ≤ 640 then (PySem.intText? z).map PyData.int else none) = some d' := e
    cases s.str
    split at e
    · cases q : PySem.intText? z with
      | none => rw [q] at e; cases e
      | some i =>
        rw [q] at e
        cases e
        exact ⟨_, call_int_str, _, _, rfl, q, by assumption, A.int⟩
    · cases e
  | _ => cases e
theorem cb_str : CallR X (.type "str") (rBi T .str) := cb_one (by decide) fun F ι st x d d' H Q S s e A => by
  cases d with
  | int i =>
    have e : (if i.natAbs.log2 < 1920 then some (PyData.str (toString i)) else none) = some d' := e
    cases s.int
    split at e
    · cases e
      exact ⟨_, call_str_int, _, rfl, by assumption, A.str⟩
    · cases e
  | str z => cases e; cases s.str; exact ⟨_, SkE.call_str_str, _, rfl, A.str⟩
  | _ => cases e
theorem cb_all (hc : X.calm = true) (hK : X.K = T.K) : CallR X (.builtin "all") (rBi T .all) := cb_one (by decide) fun F ι st x d d' H Q S s e A => by
  cases d with
  | list ds =>
    have e : ((boolsOf ds).map fun bs => PyData.bool (bs.all id)) = some d' := e
    cases q : boolsOf ds with
    | none => rw [q] at e; cases e
    | some bs =>
      rw [q] at e
      cases e
      obtain ⟨p, xs, rfl, r1, l1⟩ := s.list S.sub
      have := l1.bools q
      subst this
      exact ⟨_, cr_all hc, p, bs, rfl, .inl r1, A.bl⟩
  | _ => cases e
theorem cb_any (hc : X.calm = true) (hK : X.K = T.K) : CallR X (.builtin "any") (rBi T .any) := cb_one (by decide) fun F ι st x d d' H Q S s e A => by
  cases d with
  | list ds =>
    have e : ((boolsOf ds).map fun bs => PyData.bool (bs.any id)) = some d' := e
    cases q : boolsOf ds with
    | none => rw [q] at e; cases e
    | some bs =>
      rw [q] at e
      cases e
      obtain ⟨p, xs, rfl, r1, l1⟩ := s.list S.sub
      have := l1.bools q
      subst this
      exact ⟨_, cr_any hc, p, bs, rfl, .inl r1, A.bl⟩
  | _ => cases e
theorem cb_sum (hc : X.calm = true) : CallR X (.builtin "sum") (rBi T .sum) := cb_one (by decide) fun F ι st x d d' H Q S s e A => by
  cases d with
  | list ds =>
    have e : ((intsOf ds).map fun bs => PyData.int bs.sum) = some d' := e
    cases q : intsOf ds with
    | none => rw [q] at e; cases e
    | some bs =>
      rw [q] at e
      cases e
      obtain ⟨p, xs, rfl, r1, l1⟩ := s.list S.sub
      have := l1.intsOf q
      subst this
      exact ⟨_, cr_sum hc, p, bs, rfl, .inl r1, A.int⟩
  | _ => cases e
theorem cb_min (hc : X.calm = true) : CallR X (.builtin "min") (rBi T .min2) := callr_by fun xs H Q hh => by
  rcases hh.cases with ⟨F, ι, st, x, d, d', S, rfl, s, e, A⟩ | ⟨F, ι, st, vs, p, ys, S, rfl, s, e, ⟨k, A⟩ | ⟨k, A⟩ | ⟨k, A, _⟩⟩ | ⟨F, ι, st, i, j, S, rfl, ⟨k, A⟩ | ⟨k, A⟩⟩
  · cases d <;> cases e
  · cases k
  · cases k
  · cases k
  · exact ⟨_, call_min2 hc, _, _, rfl, A.int⟩
  · cases k
theorem cb_max (hc : X.calm = true) : CallR X (.builtin "max") (rBi T .max2) := callr_by fun xs H Q hh => by
  rcases hh.cases with ⟨F, ι, st, x, d, d', S, rfl, s, e, A⟩ | ⟨F, ι, st, vs, p, ys, S, rfl, s, e, ⟨k, A⟩ | ⟨k, A⟩ | ⟨k, A, _⟩⟩ | ⟨F, ι, st, i, j, S, rfl, ⟨k, A⟩ | ⟨k, A⟩⟩
  · cases d <;> cases e
  · cases k
  · cases k
  · cases k
  · cases k
  · exact ⟨_, call_max2 hc, _, _, rfl, A.int⟩
/-- len of a dict, locked or not -/
theorem call_lenDR : CallR X (.builtin "len") (fun xs H Q => ∃ a kvs, xs = [V.ref a] ∧ Rd H a (.dK kvs) ∧ Q (.int kvs.length) H) := by
  intro pins s σ H xs us Q I r h
  obtain ⟨a, kvs, rfl, ha, q⟩ := h
  obtain ⟨u, rfl, ru⟩ := vals1 r
  cases ru
  exact d_len I ha fun t s' I' => ⟨.int kvs.length, H, I', ⟨t, rfl⟩, q⟩
theorem call_lenTR : CallR X (.builtin "len") (fun xs H Q => ∃ a kvs, xs = [V.ref a] ∧ Rd H a (.dT kvs) ∧ Q (.int ((kvs.length : Nat) : Int)) H) := by
  intro pins s σ H xs us Q I r h
  obtain ⟨p, kvs, rfl, hp, q⟩ := h
  obtain ⟨u, rfl, rx⟩ := vals1 r
  obtain rfl : u = .ref p := rx
  obtain ⟨z, hd, ys, rel, dd⟩ := dt_rd I.hok hp
  have hl : kvs.length = ys.length := Paired.length rel
  refine call_len_dictH hd dd (by rw [← hl]; rw [sizeLine_eq] at z; omega) ?_
  rw [← hl]
  exact ⟨.int ((kvs.length : Nat) : Int), H, I.tok _, ⟨_, rfl⟩, q⟩
theorem cb_len : CallR X (.builtin "len") (rBi T .len) := callr_by fun xs H Q hh => by
  rcases hh.cases with ⟨F, ι, st, x, d, d', S, rfl, s, e, A⟩ | ⟨F, ι, st, vs, p, ys, S, rfl, s, e, ⟨k, A⟩ | ⟨k, A⟩ | ⟨k, A, _⟩⟩ | ⟨F, ι, st, i, j, S, rfl, ⟨k, A⟩ | ⟨k, A⟩⟩
  · cases d with
    | str z =>
      have e : (if z.length ≤ SZ then some (PyData.int z.length) else none) = some d' := e
      cases s.str
      split at e
      · cases e
        exact ⟨_, call_len, _, _, rfl, ⟨by rw [← SZ_eq]; assumption, rfl⟩, A.int⟩
      · cases e
    | list ds =>
      cases e
      obtain ⟨p, xs, rfl, r1, l1⟩ := s.list S.sub
      exact ⟨_, call_len, _, _, rfl, .inl ⟨xs, .inl r1, l1.length.symm⟩, A.int⟩
    | tuple ds =>
      cases e
      obtain ⟨p, xs, rfl, r1, _, l1⟩ := s.tup S.sub
      exact ⟨_, call_len, _, _, rfl, .inr ⟨xs, SqT.of r1, l1.length.symm⟩, A.int⟩
    | dict es =>
      cases e
      obtain ⟨p, rfl, ⟨kvs, r, k⟩ | ⟨kvs, r, k⟩⟩ := s.dict S.sub
      · exact ⟨_, call_lenDR, p, kvs, rfl, r, by rw [lenK k]; exact A.int⟩
      · exact ⟨_, call_lenTR, p, kvs, rfl, r, by rw [lenT k]; exact A.int⟩
    | _ => cases e
  · rcases e with e | e
    · exact ⟨_, call_len, _, _, rfl, .inl ⟨ys, .inl e, s.length⟩, A.int⟩
    · exact ⟨_, call_len, _, _, rfl, .inr ⟨ys, SqT.of e, s.length⟩, A.int⟩
  · cases k
  · cases k
  · cases k
  · cases k
theorem cb_list (hc : X.calm = true) : CallR X (.type "list") (rBi T .list) := callr_by fun xs H Q hh => by
  rcases hh.cases with ⟨F, ι, st, x, d, d', S, rfl, s, e, A⟩ | ⟨F, ι, st, vs, p, ys, S, rfl, s, e, ⟨k, A⟩ | ⟨k, A⟩ | ⟨k, A, _⟩⟩ | ⟨F, ι, st, i, j, S, rfl, ⟨k, A⟩ | ⟨k, A⟩⟩
  · cases d with
    | list ds =>
      cases e
      obtain ⟨p, xs, rfl, r1, l1⟩ := s.list S.sub
      exact ⟨_, call_list_of, _, _, rfl, .inl (.inl r1), A.lst S.sub l1⟩
    | tuple ds =>
      cases e
      obtain ⟨p, xs, rfl, r1, _, l1⟩ := s.tup S.sub
      exact ⟨_, call_list_of, _, _, rfl, .inr (SqT.of r1), A.lst S.sub l1⟩
    | dict es =>
      have e : (if (es.all fun q => isKey1 q.1) = true then some (PyData.list (es.map (·.1))) else none) = some d' := e
      split at e
      · rename_i hk
        cases e
        obtain ⟨p, rfl, ⟨kvs, r, k⟩ | ⟨kvs, r, k⟩⟩ := s.dict S.sub
        · exact ⟨_, call_listD hc, p, kvs, rfl, r, A.lst S.sub k.keys⟩
        · cases k with
          | nil => exact ⟨_, call_list_dT hc, p, [], rfl, r, fun q bs hq hb => by
              have : bs = [] := by cases bs with | nil => rfl | cons _ _ => cases hb
              subst this
              exact A.lst (xs := []) S.sub .nil q hq⟩
          | cons h1 h2 => simp [isKey1] at hk
      · cases e
    | _ => cases e
  · cases k
  · rcases e with e | e
    · exact ⟨_, call_list_of, _, _, rfl, .inl (.inl e), A.newL S.sub s⟩
    · exact ⟨_, call_list_of, _, _, rfl, .inr (SqT.of e), A.newL S.sub s⟩
  · cases k
  · cases k
  · cases k
theorem cb_tuple : CallR X (.type "tuple") (rBi T .tuple) := callr_by fun xs H Q hh => by
  rcases hh.cases with ⟨F, ι, st, x, d, d', S, rfl, s, e, A⟩ | ⟨F, ι, st, vs, p, ys, S, rfl, s, e, ⟨k, A⟩ | ⟨k, A⟩ | ⟨k, A, k2⟩⟩ | ⟨F, ι, st, i, j, S, rfl, ⟨k, A⟩ | ⟨k, A⟩⟩
  · cases d with
    | list ds =>
      cases e
      obtain ⟨p, xs, rfl, r1, l1⟩ := s.list S.sub
      exact ⟨_, call_tuple_of, _, _, rfl, .inl ⟨.inl r1, A.tup S.sub l1⟩⟩
    | tuple ds =>
      cases e
      obtain ⟨p, xs, rfl, r1, f1, l1⟩ := s.tup S.sub
      exact ⟨_, call_tuple_of, _, _, rfl, .inr ⟨SqT.of r1, A.dat (.tup f1 l1)⟩⟩
    | _ => cases e
  · cases k
  · cases k
  · rcases e with e | e
    · exact ⟨_, call_tuple_of, _, _, rfl, .inl ⟨.inl e, A.newT S.sub s⟩⟩
    · exact ⟨_, call_tuple_of, _, _, rfl, .inr ⟨SqT.of e, A.here (.t (k2 e) s)⟩⟩
  · cases k
  · cases k
end
/-! ### repr -/
mutual
theorem reads_of {X : Cx} {pins : List (Addr × Obj)} {σ : L2.St} {H : Hp} {s : Shared} (I : Inv X pins σ H s) {K : PySem.W.Frag} : ∀ (d : PyData) (x : V) (u : Value), d.hasDict = false → Dat K H x d → RelV x u → ∃ as, Reads s.heap u d as
  | .none, _, _, _, h, r => by cases h; cases r; exact ⟨_, .none⟩
  | .bool b, _, _, _, h, r => by cases h; cases r; exact ⟨_, .bool b⟩
  | .int i, _, _, _, h, r => by cases h; obtain ⟨t, rfl⟩ := r; exact ⟨_, .int i t⟩
  | .str z, _, _, _, h, r => by cases h; obtain ⟨t, rfl⟩ := r; exact ⟨_, .str z t⟩
  | .list ds, _, _, n, h, r => by
    cases h with
    | lst h1 h2 =>
      cases r
      obtain ⟨_, its, m, rv, _, e⟩ := lstR I h1
      obtain ⟨as, q⟩ := readsAll_of I ds _ _ (by simpa [PyData.hasDict] using n) h2 rv
      exact ⟨_, .list e rfl rfl q⟩
  | .tuple ds, _, _, n, h, r => by
    cases h with
    | tup h1 h2 =>
      cases r
      obtain ⟨_, its, rv, o, e, c, m, dd⟩ := I.hok _ _ h1
      obtain ⟨as, q⟩ := readsAll_of I ds _ _ (by simpa [PyData.hasDict] using n) h2 rv
      exact ⟨_, .tuple e c dd q⟩
  | .dict es, _, _, n, _, _ => by simp [PyData.hasDict] at n
theorem readsAll_of {X : Cx} {pins : List (Addr × Obj)} {σ : L2.St} {H : Hp} {s : Shared} (I : Inv X pins σ H s) {K : PySem.W.Frag} : ∀ (ds : List PyData) (xs : List V) (us : List Value), PyData.hasDictAll ds = false → DatL K H xs ds → Vals xs us → ∃ as, ReadsAll s.heap us ds as
  | [], _, _, _, h, r => by cases h; cases r; exact ⟨_, .nil⟩
  | d :: ds, _, _, n, h, r => by
    cases h with
    | cons h1 h2 =>
      cases r with
      | cons r1 r2 =>
        have n' : d.hasDict = false ∧ PyData.hasDictAll ds = false := by simpa [PyData.hasDictAll] using n
        obtain ⟨as, q⟩ := reads_of I d _ _ n'.1 h1 r1
        obtain ⟨bs, q2⟩ := readsAll_of I ds _ _ n'.2 h2 r2
        exact ⟨_, .cons q q2⟩
end
def rRepr (K : PySem.W.Frag) : List V → Hp → VK → Prop := fun xs H Q => ∃ (x : V) (d : PyData), xs = [x] ∧ Dat K H x d ∧ d.shown.length ≤ sizeLine ∧ d.showable = true ∧ d.depth ≤ 64 ∧ d.hasDict = false ∧ Q (.str d.shown) H
section
variable {X : Cx} {T : Tb} {K : PySem.W.Frag}
theorem call_reprD (hG : X.A.guards = some []) (hu : X.A.units + 100 < cLine) : CallR X (.builtin "repr") (rRepr K) := by
  intro pins s σ H xs us Q I r h
  obtain ⟨x, d, rfl, hd, hz, hs, hp, hn, q⟩ := h
  obtain ⟨u, rfl, rx⟩ := vals1 r
  obtain ⟨as, R⟩ := reads_of I d x u hn hd rx
  cases x with
  | ref a =>
    cases rx
    refine repr_of_reads' R hs (fun h => by rw [hn] at h; cases h) hG (by omega) (fun _ _ e => e) (fun h' u tk hk => ?_) hz
    exact ⟨.str d.shown, H, I.kept (t' := tk) hk, ⟨_, rfl⟩, q⟩
  | non => cases hd; cases rx; exact PySem.P.repr_of_none ⟨.str _, H, I.tok _, ⟨_, rfl⟩, q⟩
  | bl b => cases hd; cases rx; exact PySem.P.repr_of_bool ⟨.str _, H, I.tok _, ⟨_, rfl⟩, q⟩
  | int i =>
    cases hd
    obtain ⟨t, rfl⟩ := rx
    exact PySem.P.repr_of_int (by simpa [PyData.showable] using hs) ⟨.str _, H, I.tok _, ⟨_, rfl⟩, q⟩
  | str z =>
    cases hd
    obtain ⟨t, rfl⟩ := rx
    exact PySem.P.repr_of_str ⟨.str _, H, I.tok _, ⟨_, rfl⟩, q⟩ hz
  | _ => cases hd
theorem cb_repr (hG : X.A.guards = some []) (hu : X.A.units + 100 < cLine) : CallR X (.builtin "repr") (rBi T .repr) := cb_one (by decide) fun F ι st x d d' H Q S s e A => by
  have e : (if d.shown.length ≤ SZ ∧ d.showable = true ∧ d.depth ≤ 64 ∧ d.hasDict = false then some (PyData.str d.shown) else none) = some d' := by cases d <;> exact e
  split at e
  · rename_i hh
    cases e
    exact ⟨_, call_reprD hG hu, x, d, rfl, s.up S.sub, by rw [← SZ_eq]; exact hh.1, hh.2.1, hh.2.2.1, hh.2.2.2, A.str⟩
  · cases e
end
end Vm
end

section
/-! V11: sorted, isinstance. -/
namespace Vm
open PySem L2 PySem.Spec PyProof.Rows

/-! ### sorted texts: one order -/
theorem ltS_cps (a b : Str) : ltCps a.cps.toList b.cps.toList = ltS a b := ltCps_eq _ _
theorem ltS_irr (a : Str) : ltS a a = false := decide_eq_false (List.lt_irrefl _)
theorem ltS_trans {a b c : Str} (h1 : ltS a b = true) (h2 : ltS b c = true) : ltS a c = true := decide_eq_true (List.lt_trans (of_decide_eq_true h1) (of_decide_eq_true h2))
theorem str_ext {a b : Str} (h : a.cps.toList = b.cps.toList) : a = b := by
  cases a with | mk a => cases b with | mk b => cases a; cases b; cases h; rfl
theorem ltS_tri {a b : Str} (h1 : ltS a b = false) (h2 : ltS b a = false) : a = b := str_ext (List.le_antisymm (by
  have := of_decide_eq_false h2
  exact List.not_lt.mp this) (by
  have := of_decide_eq_false h1
  exact List.not_lt.mp this))
/-- not above -/
def leS (a b : Str) : Prop := ltS b a = false
theorem leS_trans {a b c : Str} (h1 : leS a b) (h2 : leS b c) : leS a c := by
  unfold leS at *
  cases q : ltS c a with
  | false => rfl
  | true =>
    cases q2 : ltS b a with
    | true => rw [h1] at q2; cases q2
    | false =>
      cases q3 : ltS a b with
      | false =>
        have := ltS_tri q3 q2
        subst this
        rw [q] at h2; cases h2
      | true => rw [ltS_trans q q3] at h2; cases h2
theorem rising_pw : ∀ (p : Str) (l : List Str), risingS p l = true → (p :: l).Pairwise leS
  | p, [], _ => by simp
  | p, x :: r, h => by
    have h : (!ltCps x.cps.toList p.cps.toList && risingS x r) = true := h
    rw [Bool.and_eq_true] at h
    have h2 := rising_pw x r h.2
    have h1 : leS p x := by
      unfold leS
      rw [← ltS_cps]
      simpa using h.1
    refine List.pairwise_cons.mpr ⟨fun y hy => ?_, h2⟩
    rcases List.mem_cons.mp hy with rfl | hy
    · exact h1
    · exact leS_trans h1 (List.rel_of_pairwise_cons h2 hy)
theorem sortedS_pw : ∀ (l : List Str), sortedS l = true → l.Pairwise leS
  | [], _ => .nil
  | x :: r, h => rising_pw x r h
theorem insS_perm (x : Str) : ∀ l : List Str, (insS x l).Perm (x :: l)
  | [] => .refl _
  | y :: r => by
    unfold insS
    by_cases h : ltS y x = true
    · rw [if_pos h]
      exact ((insS_perm x r).cons y).trans (.swap ..)
    · rw [if_neg h]
theorem insS_pw (x : Str) : ∀ l : List Str, l.Pairwise leS → (insS x l).Pairwise leS
  | [], _ => by simp [insS]
  | y :: r, h => by
    unfold insS
    by_cases q : ltS y x = true
    · rw [if_pos q]
      refine List.pairwise_cons.mpr ⟨fun z hz => ?_, insS_pw x r (List.pairwise_cons.mp h).2⟩
      rcases List.mem_cons.mp ((insS_perm x r).mem_iff.mp hz) with rfl | hz
      · unfold leS
        cases k : ltS z y with
        | false => rfl
        | true => exact absurd (ltS_trans q k) (by rw [ltS_irr]; simp)
      · exact List.rel_of_pairwise_cons h hz
    · rw [if_neg q]
      refine List.pairwise_cons.mpr ⟨fun z hz => ?_, h⟩
      have q : leS x y := by simpa [leS] using q
      rcases List.mem_cons.mp hz with rfl | hz
      · exact q
      · exact leS_trans q (List.rel_of_pairwise_cons h hz)
theorem sortS_perm : ∀ l : List Str, (sortS l).Perm l
  | [] => .refl _
  | x :: r => (insS_perm x (sortS r)).trans ((sortS_perm r).cons x)
theorem sortS_pw : ∀ l : List Str, (sortS l).Pairwise leS
  | [] => .nil
  | x :: r => insS_pw x _ (sortS_pw r)
theorem sort_one : ∀ {l m : List Str}, l.Perm m → l.Pairwise leS → m.Pairwise leS → l = m
  | [], m, h, _, _ => h.nil_eq
  | x :: r, [], h, _, _ => absurd h.symm.nil_eq (by simp)
  | x :: r, y :: t, h, h1, h2 => by
    have e : x = y := by
      have hx := h.mem_iff.mp List.mem_cons_self
      have hy := h.mem_iff.mpr (List.mem_cons_self (a := y) (l := t))
      rcases List.mem_cons.mp hx with e | hx
      · exact e
      · rcases List.mem_cons.mp hy with e | hy
        · exact e.symm
        · exact ltS_tri (List.rel_of_pairwise_cons h2 hx) (List.rel_of_pairwise_cons h1 hy)
    subst e
    rw [sort_one (h.cons_inv) (List.pairwise_cons.mp h1).2 (List.pairwise_cons.mp h2).2]
theorem sort_of {ys xs : List Str} (h : ys.Perm xs) (s : sortedS ys = true) : ys = sortS xs := sort_one (h.trans (sortS_perm xs).symm) (sortedS_pw ys s) (sortS_pw xs)

section
variable {X : Cx} {T : Tb}
theorem dk_rdE {P : Program} {w : World} {H : Hp} {h : Heap} {a : Addr} {kvs : List (Key × V)} (ok : HOk P w H h) (e : Rd H a (.dK kvs) ∨ (kvs = [] ∧ Rd H a (.dT []))) : kvs.length ≤ sizeLine ∧ (a == sysModules) = false ∧ ∃ vs, KV kvs vs ∧ h.DictOf (mixKind P w) a vs := by
  rcases e with e | ⟨rfl, e⟩
  · exact dk_rd ok e
  · obtain ⟨z, y, xs, r, o, es, ep, h1, h2, h3, h4, h5⟩ := (show ObjOk P w H h a (.dT []) from rd_of ok e)
    cases r
    have h6 : es = #[] := by simpa using h4
    subst h6
    exact ⟨Nat.zero_le _, y, [], .nil, o, #[], ep, h1, h2, h3, fun _ he => by simp at he, Pairs.nil, List.nodup_nil⟩
theorem call_sortedE (hcalm : X.calm = true) : CallR X (.builtin "sorted") (fun xs H Q => ∃ (a : Addr) (kvs : List (Key × V)) (ks : List Str), xs = [.ref a] ∧ (Rd H a (.dK kvs) ∨ (kvs = [] ∧ Rd H a (.dT []))) ∧ kvs.map (·.1) = ks.map Sum.inr ∧ ks.length < 64 ∧
    ∀ ys p, ys.Perm ks → sortedS ys = true → H p = none → Q (.ref p) (upd H p (.lst (ys.map V.str)))) := by
  intro pins s σ H xs us Q I r q
  obtain ⟨a, kvs, ks, ex, hd, hks, h64, q⟩ := q
  subst ex
  obtain ⟨u, eu, rx⟩ := vals1 r
  subst eu
  cases rx
  obtain ⟨z, lo, vs, rel, dd⟩ := dk_rdE I.hok hd
  obtain ⟨ep, hat⟩ := dd.dictAt
  have hkeys : vs.map (·.1) = ks.map Sum.inr := rel.keys.symm.trans hks
  have hl : vs.length = ks.length := by
    have e := congrArg List.length hkeys
    rw [List.length_map, List.length_map] at e
    exact e
  have h16 : vs.length ≤ sizeLine := by rw [hl, sizeLine_eq]; omega
  refine Calls.call_function_entry PyProof.Rows.kind_sorted PyProof.Rows.plain_sorted PyProof.Rows.entry_sorted (PyProof.Rows.args_sorted1 _) ?_
  unfold Builtin.«sorted»
  refine wpAny_bind (m := checkCount "sorted" 1 1 _) (wpAny_pure ?_)
  refine wpAny_bind (PySem.W.kdu_collect (A := X.A.in1) (PySem.W.kdl_dict (knd := mixKind X.prog X.w) (kvs := vs) (ep := ep) lo) (I.ok.hd hcalm) hat h16 fun h' tk acc hk hacc => ?_)
  have hal : acc.toList.length = ks.length := by rw [Array.length_toList, hacc.1, hl]
  have hS : StrsAre acc.toList ks := strs_at hal fun j v e => by
    obtain ⟨k, x, e1, e2⟩ := hacc.2 j v (by rw [← Array.getElem?_toList]; exact e)
    have e3 : (vs.map (·.1))[j]? = some k := by rw [List.getElem?_map, e1]; all_goals rfl
    rw [hkeys, List.getElem?_map] at e3
    cases e4 : ks[j]? with
    | none => rw [e4] at e3; cases e3
    | some y =>
      rw [e4] at e3
      have e5 : Sum.inr y = k := Option.some.inj e3
      subst e5
      obtain ⟨t, ev⟩ := Value.isStrOf_shape (x := y) (v := v) e2
      exact ⟨y, t, rfl, ev⟩
  have I1 : Inv X pins σ H { s with heap := h', toks := tk } := I.kept hk
  refine wpAny_bind (wpAny_newList ?_ (by rw [hal, sizeLine_eq]; omega))
  have hoL : (h'.push (seqObj "list" acc.toList.toArray 0)).get? h'.objs.size = some (seqObj "list" acc.toList.toArray 0) := Heap.get?_push_size _ rfl
  show wpAny _ _ _ _ _ { s with heap := h'.push (seqObj "list" acc.toList.toArray 0), toks := tk }
  refine wpAny_bind (wpAny_holding (wpAny_call_entry PyProof.Rows.slot_list_sort ⟨_, hoL, rfl⟩ PyProof.Rows.entry_list_sort
    (list_sort_treeK strKind_oneLt (s := { s with heap := h'.push (seqObj "list" acc.toList.toArray 0), toks := tk }) hoL hS.keysOf (fun v₁ v₂ rest e => keyKind_strs (by rw [← e]; exact hS)) (by rw [hal]; exact h64) fun st' hp hs => ⟨_, rfl, ?_⟩)
    (PyProof.Rows.args_list_sort _)))
  obtain ⟨ys, g1, g2, g3⟩ := sorted_out_str hS hp hs
  obtain ⟨e', he'⟩ := PyProof.Rows.sortedHeap_at (vs := acc.toList) (out := (arrOf st').map (·.2)) hoL
  have hlen : (ys.map V.str).length ≤ sizeLine := by
    rw [List.length_map, g2.length_eq]
    exact Nat.le_trans (Nat.le_of_lt h64) (by decide)
  refine wpAny_pure ⟨_, rfl, .ref h'.objs.size, upd H h'.objs.size (.lst (ys.map V.str)), I1.laid (t' := tk) (fun b u e => ?_) (Nat.le_refl _)
    (show ObjOk X.prog X.w _ _ _ (.lst (ys.map V.str)) from ⟨hlen, ((arrOf st').map (·.2)).toList, e', vals_of_strs g1, by rw [Array.toArray_toList]; exact he'⟩), rfl, q ys _ g2 g3 (I1.hok.fresh (Nat.le_refl _))⟩
  have hb : b < h'.objs.size := Heap.lt_size e
  rw [PyProof.Rows.sortedHeap_old (Nat.ne_of_lt hb) (by rw [size_push']; exact Nat.lt_succ_of_lt hb)]
  exact Heap.get?_push_of_some _ e
theorem strs_map {K : PySem.W.Frag} {F : Hp} : ∀ (ss : List Str), DatL K F (ss.map V.str) (ss.map PyData.str) := DatL.strs
theorem keys_str {K : PySem.W.Frag} {F : Hp} : ∀ {kvs : List (Key × V)} {es : List (PyData × PyData)} {ss : List Str}, DatK K F kvs es → strsOf (es.map (·.1)) = some ss → kvs.map (·.1) = ss.map Sum.inr
  | _, _, _, .nil, e => by cases e; rfl
  | _, _, ss, .cons (k := k) (ds := ds) h1 h2, e => by
    cases k with
    | inl i => cases e
    | inr z =>
      have e : (strsOf (ds.map (·.1))).map (z :: ·) = some ss := e
      cases q : strsOf (ds.map (·.1)) with
      | none => rw [q] at e; cases e
      | some tt =>
        rw [q] at e
        cases e
        rw [List.map_cons, List.map_cons, keys_str h2 q]
theorem strsOf_len : ∀ {ds : List PyData} {ss : List Str}, strsOf ds = some ss → ds.length = ss.length
  | [], _, e => by cases e; rfl
  | .str z :: ds, ss, e => by
    have e : (strsOf ds).map (z :: ·) = some ss := e
    cases q : strsOf ds with
    | none => rw [q] at e; cases e
    | some tt => rw [q] at e; cases e; simp [strsOf_len q]
  | .none :: _, _, e => by cases e
  | .bool _ :: _, _, e => by cases e
  | .int _ :: _, _, e => by cases e
  | .list _ :: _, _, e => by cases e
  | .tuple _ :: _, _, e => by cases e
  | .dict _ :: _, _, e => by cases e
theorem cb_sorted (hc : X.calm = true) : CallR X (.builtin "sorted") (rBi T .sorted) := cb_one (by decide) fun F ι st x d d' H Q S s e A => by
  cases d with
  | list ds =>
    have e : (if ds.length < 64 then (strsOf ds).map fun ss => PyData.list ((sortS ss).map .str) else none) = some d' := e
    split at e
    · rename_i hz
      cases q : strsOf ds with
      | none => rw [q] at e; cases e
      | some ss =>
        rw [q] at e
        cases e
        obtain ⟨p, xs, rfl, r1, l1⟩ := s.list S.sub
        have := l1.strsOf q
        subst this
        refine ⟨_, cr_sortedS, p, ss, rfl, .inl r1, by rw [← strsOf_len q]; exact hz, fun ys p hp hs hn => ?_⟩
        rw [sort_of hp hs]
        exact A.lst S.sub (DatL.strs _) p hn
    · cases e
  | dict es =>
    have e : (if es.length < 64 then (strsOf (es.map (·.1))).map fun ss => PyData.list ((sortS ss).map .str) else none) = some d' := e
    split at e
    · rename_i hz
      cases q : strsOf (es.map (·.1)) with
      | none => rw [q] at e; cases e
      | some ss =>
        rw [q] at e
        cases e
        have hl := strsOf_len q
        rw [List.length_map] at hl
        obtain ⟨p, rfl, ⟨kvs, r, k⟩ | ⟨kvs, r, k⟩⟩ := s.dict S.sub
        · refine ⟨_, call_sortedD hc, p, kvs, ss, rfl, r, keys_str k q, by rw [← hl]; exact hz, fun ys p hp hs hn => ?_⟩
          rw [sort_of hp hs]
          exact A.lst S.sub (DatL.strs _) p hn
        · cases k with
          | nil =>
            cases q
            exact ⟨_, call_sortedE hc, p, [], [], rfl, .inr ⟨rfl, r⟩, rfl, by decide, fun ys p hp hs hn => by
              rw [sort_of hp hs]
              exact A.lst (xs := []) S.sub .nil p hn⟩
          | cons h1 h2 => cases q
    · cases e
  | _ => cases e
end
end Vm
end

section
/-! V12: calls. -/
namespace Vm
open PySem L2 PySem.Spec PyProof.Rows

/-- what the i-th def promises, with n calls in reach -/
def spOf (T : Tb) (P : Pg) (n i : Nat) : Sp := fun vs H Q E => ∃ G F ι st ws d, Sim (T.wG G) F ι st H ∧ VRelL T F ι st.length ws vs ∧ P.fns i = some d ∧ ws.length = d.np ∧ PostG (RV T) (T.wG G) (fun cls d _ H => E cls d H) [] F ι st.length (runF P n i ws st) Q
section
variable {X : Cx} {T : Tb} {W : L2.WX} {Kt : Kit} {e e1 e2 e3 : Expr} {es : List Expr} {pos p p2 : Pos} {x : Str}
theorem runF_len {P : Pg} {n i : Nat} {ws : List Val} {st : Store} {W : L2.WX} {σ : L2.St} {F : Hp} {ι : Nat → Addr} {m : Nat} {Q : VK} (h : PostG (RV T) T W σ F ι m (runF P n i ws st) Q) : ∃ d, P.fns i = some d ∧ ws.length = d.np := by
  cases n with
  | zero => exact h.elim
  | succ n =>
    rw [runF] at h
    cases q : P.fns i with
    | none => rw [q] at h; exact h.elim
    | some d =>
      rw [q] at h
      by_cases l : ws.length = d.np
      · exact ⟨d, rfl, l⟩
      · simp only at h
        rw [if_neg l] at h
        exact h.elim
theorem de_call {P : Pg} {n k i : Nat} {f : Addr} {fd : FuncData} {ps : List Str} {a : Ex} (hF : FnG X.prog X.w X.K X.mg X.base k f fd ps (spOf T P n i)) (hr : Room k X.A) (hG : X.A.guards = some []) (hg : Gl X x) (hm : X.mg x = some (.ref f)) (hk : PySem.W.keepIn X.K (.ref f) = true) (hb : Binds X.K fd ps []) (tk : Takes X W)
    (ha : DA X T W (e :: es) (evalL (kitOf P n) a)) (hdb : (x == ("__debug__" : Str)) = false) (he : starEach (e :: es) X.env = (false, eval e X.env) :: starEach es X.env) (hpl : (backTo pos (starEach es X.env)).any (·.1) = false) :
    DE X T W (.Call (.Name x p) (e :: es) [] pos) (evalX (kitOf P n) (.call i a)) :=
  de_eq (de_args (t := tTup) (g := fun _ vs st1 => runF P n i vs st1) (pe_callG (E := WE W) hF hr hG hg hm hk hb (passAt tk) ha hdb he hpl) fun σ F ι env st H vs xs Q S r p => by
    obtain ⟨d, h1, h2⟩ := runF_len p
    refine ⟨T.G, F, ι, st, vs, d, S, r, h1, h2, ?_⟩
    revert p
    cases runF P n i vs st with
    | ok v s => exact fun p => p
    | er c fs s => exact fun p => p
    | no => exact fun p => p) fun env st => by rw [evalX] <;> rfl
theorem de_biB {b : Bi} {id : String} {a : Ex} (hc : CallR X (.builtin id) (rBi T b)) (hg : Gl X x) (hm : X.mg x = none) (hv : bootBuiltins x = some (.builtin id)) (ha : DA X T W (e :: es) (evalL Kt a)) (hn : x ≠ "__name__") (hdb : (x == ("__debug__" : Str)) = false)
    (he : starEach (e :: es) X.env = (false, eval e X.env) :: starEach es X.env) (hpl : (backTo pos (starEach es X.env)).any (·.1) = false) : DE X T W (.Call (.Name x p) (e :: es) [] pos) (evalX Kt (.bi b a)) :=
  de_eq (de_args (t := tTup) (g := fun _ vs st1 => R.of (biV b vs st1) st1) (pe_callB (p := p) hc hg hm hv ha hn hdb he hpl) fun σ F ι env st H vs xs Q S r p => by
    obtain ⟨d, h1, h2⟩ := of_ans S p
    exact ⟨F, ι, st, vs, d, S, r, h1, h2⟩) fun env st => by rw [evalX]
theorem de_biT {b : Bi} {id : String} {a : Ex} (hc : CallR X (.type id) (rBi T b)) (hg : Gl X x) (hm : X.mg x = none) (hv : bootBuiltins x = some (.type id)) (ha : DA X T W (e :: es) (evalL Kt a)) (hn : x ≠ "__name__") (hdb : (x == ("__debug__" : Str)) = false)
    (he : starEach (e :: es) X.env = (false, eval e X.env) :: starEach es X.env) (hpl : (backTo pos (starEach es X.env)).any (·.1) = false) : DE X T W (.Call (.Name x p) (e :: es) [] pos) (evalX Kt (.bi b a)) :=
  de_eq (de_args (t := tTup) (g := fun _ vs st1 => R.of (biV b vs st1) st1) (pe_callTy (p := p) hc hg hm hv ha hn hdb he hpl) fun σ F ι env st H vs xs Q S r p => by
    obtain ⟨d, h1, h2⟩ := of_ans S p
    exact ⟨F, ι, st, vs, d, S, r, h1, h2⟩) fun env st => by rw [evalX]
/-- .. whose list is a cell -/
def rNew (T : Tb) (b : Bi) : List V → Hp → VK → Prop := fun xs H Q => ∃ F ι st vs ds, Sim T F ι st H ∧ VRelL T F ι st.length vs xs ∧ biV b vs st = some (.p (.list ds)) ∧ ∀ ys, DatL T.K F ys ds → ∀ p, H p = none → Q (.ref p) (upd H p (.lst ys))
theorem biL {F : Hp} {ι : Nat → Addr} {st : Store} {H : Hp} {b : Bi} {vs : List Val} {xs : List V} {ds : List PyData} (hb : b = .list ∨ b = .sorted) (S : Sim T F ι st H) (r : VRelL T F ι st.length vs xs) (e : biV b vs st = some (.p (.list ds))) :
    ∃ x d, xs = [x] ∧ SeenP T.K F H x d ∧ biD b d = some (.list ds) := by
  unfold biV at e
  split at e
  · obtain ⟨x, rfl, rx⟩ := r.one
    split at e
    · rename_i d q
      cases q2 : biD b d with
      | none => rw [q2] at e; cases e
      | some d' => rw [q2] at e; cases e; exact ⟨x, d, rfl, seeM_p S rx q, q2⟩
    · rcases hb with rfl | rfl <;> cases e
    · rcases hb with rfl | rfl <;> cases e
    · cases e
  · rcases hb with rfl | rfl <;> cases e
  · cases e
theorem cn_list (hc : X.calm = true) : CallR X (.type "list") (rNew T .list) := callr_by fun xs H Q ⟨F, ι, st, vs, ds, S, r, e, A⟩ => by
  obtain ⟨x, d, rfl, s, q⟩ := biL (.inl rfl) S r e
  cases d with
  | list ds =>
    cases q
    obtain ⟨p, xs, rfl, r1, l1⟩ := s.list S.sub
    exact ⟨_, call_list_of, _, _, rfl, .inl (.inl r1), A _ l1⟩
  | tuple ds =>
    cases q
    obtain ⟨p, xs, rfl, r1, _, l1⟩ := s.tup S.sub
    exact ⟨_, call_list_of, _, _, rfl, .inr (SqT.of r1), A _ l1⟩
  | dict es =>
    have q : (if (es.all fun q => isKey1 q.1) = true then some (PyData.list (es.map (·.1))) else none) = some (.list ds) := q
    split at q
    · rename_i hk
      cases q
      obtain ⟨p, rfl, ⟨kvs, r, k⟩ | ⟨kvs, r, k⟩⟩ := s.dict S.sub
      · exact ⟨_, call_listD hc, p, kvs, rfl, r, A _ k.keys⟩
      · cases k with
        | nil => exact ⟨_, call_list_dT hc, p, [], rfl, r, fun q bs hq hb => by
            have : bs = [] := by cases bs with | nil => rfl | cons _ _ => cases hb
            subst this
            exact A [] .nil q hq⟩
        | cons h1 h2 => simp [isKey1] at hk
    · cases q
  | _ => cases q
theorem cn_sorted (hc : X.calm = true) : CallR X (.builtin "sorted") (rNew T .sorted) := callr_by fun xs H Q ⟨F, ι, st, vs, ds, S, r, e, A⟩ => by
  obtain ⟨x, d, rfl, s, q0⟩ := biL (.inr rfl) S r e
  cases d with
  | list es =>
    have e : (if es.length < 64 then (strsOf es).map fun ss => PyData.list ((sortS ss).map .str) else none) = some (.list ds) := q0
    split at e
    · rename_i hz
      cases q : strsOf es with
      | none => rw [q] at e; cases e
      | some ss =>
        rw [q] at e
        cases e
        obtain ⟨p, xs, rfl, r1, l1⟩ := s.list S.sub
        have := l1.strsOf q
        subst this
        refine ⟨_, cr_sortedS, p, ss, rfl, .inl r1, by rw [← strsOf_len q]; exact hz, fun ys p hp hs hn => ?_⟩
        rw [sort_of hp hs]
        exact A _ (DatL.strs _) p hn
    · cases e
  | dict es =>
    have e : (if es.length < 64 then (strsOf (es.map (·.1))).map fun ss => PyData.list ((sortS ss).map .str) else none) = some (.list ds) := q0
    split at e
    · rename_i hz
      cases q : strsOf (es.map (·.1)) with
      | none => rw [q] at e; cases e
      | some ss =>
        rw [q] at e
        cases e
        have hl := strsOf_len q
        rw [List.length_map] at hl
        obtain ⟨p, rfl, ⟨kvs, r, k⟩ | ⟨kvs, r, k⟩⟩ := s.dict S.sub
        · refine ⟨_, call_sortedD hc, p, kvs, ss, rfl, r, keys_str k q, by rw [← hl]; exact hz, fun ys p hp hs hn => ?_⟩
          rw [sort_of hp hs]
          exact A _ (DatL.strs _) p hn
        · cases k with
          | nil =>
            cases q
            exact ⟨_, call_sortedE hc, p, [], [], rfl, .inr ⟨rfl, r⟩, rfl, by decide, fun ys p hp hs hn => by
              rw [sort_of hp hs]
              exact A [] .nil p hn⟩
          | cons h1 h2 => cases q
    · cases e
  | _ => cases q0
theorem de_newB {b : Bi} {id : String} {f : Nat} {a : Ex} (hbb : b = .sorted) (hc : CallR X (.builtin id) (rNew T b)) (hg : Gl X x) (hm : X.mg x = none) (hv : bootBuiltins x = some (.builtin id)) (ha : DA X T W (e :: es) (evalL Kt a)) (hn : x ≠ "__name__") (hdb : (x == ("__debug__" : Str)) = false)
    (he : starEach (e :: es) X.env = (false, eval e X.env) :: starEach es X.env) (hpl : (backTo pos (starEach es X.env)).any (·.1) = false) : DE X T W (.Call (.Name x p) (e :: es) [] pos) (evalX Kt (.new f b a)) :=
  de_eq (de_args (t := tTup) (g := fun _ vs st1 => match biV b vs st1 with
    | some (.p (.list ds)) => alloc f (ds.map .p) st1
    | some (.p (.dict kvs)) => allocD f (kvs.map fun q => (q.1, .p q.2)) st1
    | _ => .no) (pe_callB (p := p) hc hg hm hv ha hn hdb he hpl) fun σ F ι env st H vs xs Q S r p => by
    split at p
    · rename_i ds q
      exact ⟨F, ι, st, vs, ds, S, r, q, fun ys hy => alloc_post S (VRelL.ofDat hy) p⟩
    · rename_i kvs q
      subst hbb
      exfalso
      unfold biV at q
      split at q
      · split at q
        · rename_i d _
          cases d with
          | list ds =>
            have q : ((if ds.length < 64 then (strsOf ds).map fun ss => PyData.list ((sortS ss).map .str) else none).map Val.p) = some (.p (.dict kvs)) := q
            split at q
            · cases q2 : strsOf ds <;> (rw [q2] at q; cases q)
            · cases q
          | dict es =>
            have q : ((if es.length < 64 then (strsOf (es.map (·.1))).map fun ss => PyData.list ((sortS ss).map .str) else none).map Val.p) = some (.p (.dict kvs)) := q
            split at q
            · cases q2 : strsOf (es.map (·.1)) <;> (rw [q2] at q; cases q)
            · cases q
          | _ => cases q
        · cases q
        · cases q
        · cases q
      · cases q
      · cases q
    · exact p.elim) fun env st => by rw [evalX] <;> rfl
theorem de_newT {f : Nat} {a : Ex} (hc : CallR X (.type "list") (rNew T .list)) (hg : Gl X x) (hm : X.mg x = none) (hv : bootBuiltins x = some (.type "list")) (ha : DA X T W (e :: es) (evalL Kt a)) (hn : x ≠ "__name__") (hdb : (x == ("__debug__" : Str)) = false)
    (he : starEach (e :: es) X.env = (false, eval e X.env) :: starEach es X.env) (hpl : (backTo pos (starEach es X.env)).any (·.1) = false) : DE X T W (.Call (.Name x p) (e :: es) [] pos) (evalX Kt (.new f .list a)) :=
  de_eq (de_args (t := tTup) (g := fun _ vs st1 => match biV .list vs st1 with
    | some (.p (.list ds)) => alloc f (ds.map .p) st1
    | some (.p (.dict kvs)) => allocD f (kvs.map fun q => (q.1, .p q.2)) st1
    | _ => .no) (pe_callTy (p := p) hc hg hm hv ha hn hdb he hpl) fun σ F ι env st H vs xs Q S r p => by
    split at p
    · rename_i ds q
      exact ⟨F, ι, st, vs, ds, S, r, q, fun ys hy => alloc_post S (VRelL.ofDat hy) p⟩
    · rename_i kvs q
      exfalso
      unfold biV at q
      split at q
      · split at q
        · rename_i d _
          cases d with
          | dict es =>
            have q : ((if (es.all fun q => isKey1 q.1) = true then some (PyData.list (es.map (·.1))) else none).map Val.p) = some (.p (.dict kvs)) := q
            split at q <;> cases q
          | _ => cases q
        · cases q
        · cases q
        · cases q
      · cases q
      · cases q
    · exact p.elim) fun env st => by rw [evalX] <;> rfl
end
end Vm
end

section
/-! V13: methods. -/
namespace Vm
open PySem L2 PySem.Spec PyProof.Rows

inductive SL (K : PySem.W.Frag) (F H : Hp) : List V → List PyData → Prop
  | nil : SL K F H [] []
  | cons {x : V} {d : PyData} {xs : List V} {ds : List PyData} : SeenP K F H x d → SL K F H xs ds → SL K F H (x :: xs) (d :: ds)
section
variable {X : Cx} {T : Tb} {K : PySem.W.Frag} {F F' H H' : Hp} {ι : Nat → Addr} {n : Nat} {st : Store} {x y z : V} {a b c : Val} {d e : PyData} {Q : VK} {W : L2.WX} {σ : L2.St}
theorem sl_of (S : Sim T F ι st H) : ∀ {vs : List Val} {xs : List V} {ds : List PyData}, VRelL T F ι st.length vs xs → unPs (vs.map (see st)) = some ds → SL T.K F H xs ds
  | _, _, _, .nil, e => by cases e; exact .nil
  | _ :: vs, _, ds, .cons (v := v) h1 h2, e => by
    rw [List.map_cons, unPs] at e
    cases q : see st v with
    | p d =>
      rw [q] at e
      cases q2 : unPs (vs.map (see st)) with
      | none => rw [q2] at e; cases e
      | some es =>
        rw [q2] at e
        cases e
        exact .cons (see_seen S h1 q) (sl_of S h2 q2)
    | _ => rw [q] at e; cases e
theorem SL.one (h : SL K F H [x] [d]) : SeenP K F H x d := by cases h with | cons h1 _ => exact h1
theorem SL.one' {xs : List V} {d : PyData} (h : SL K F H xs [d]) : ∃ x, xs = [x] ∧ SeenP K F H x d := by
  cases h with
  | cons h1 h2 => cases h2; exact ⟨_, rfl, h1⟩
/-- the method's type and name of the built-in -/
def mT : Mt → String
  | .split | .join | .lstrip | .partition | .rpartition | .startswith => "str"
  | .append | .extend | .pop | .popAt | .insert => "list"
  | _ => "dict"
def mKd : Mt → Kd
  | .split | .join | .lstrip | .partition | .rpartition | .startswith => .str
  | .append | .extend | .pop | .popAt | .insert => .list
  | _ => .dict
def tyKd (kd : Kd) (x : V) (H : Hp) : Prop :=
  match kd with
  | .str => ∃ z, x = .str z
  | .list => ∃ p xs, x = .ref p ∧ Rd H p (.lst xs)
  | .dict => ∃ p, x = .ref p ∧ ((∃ kvs, Rd H p (.dK kvs)) ∨ ∃ kvs, Rd H p (.dT kvs))
theorem md_of {k : Nat} {vs : List (PyData × Val)} (S : Sim T F ι st H) (e : st[k]? = some (.md vs)) : F (ι k) = none ∧ ((∃ kvs, H (ι k) = some (.dK kvs) ∧ MdK T F ι st.length vs kvs) ∨ ∃ kvs, H (ι k) = some (.dT kvs) ∧ MdT T F ι st.length vs kvs) := S.cel k _ e
theorem tyKd_of {kd : Kd} (S : Sim T F ι st H) (r : VRel T F ι st.length a x) (e : mkind st a = some kd) : tyKd kd x H := by
  unfold mkind at e
  split at e
  · rename_i q
    cases e
    cases (see_seen S r q).str
    exact ⟨_, rfl⟩
  · rename_i q
    cases e
    obtain ⟨p, xs, rfl, h, _⟩ := (see_seen S r q).list S.sub
    exact ⟨p, xs, rfl, h⟩
  · rename_i q
    cases e
    obtain ⟨p, rfl, ⟨kvs, h, _⟩ | ⟨kvs, h, _⟩⟩ := (see_seen S r q).dict S.sub
    · exact ⟨p, rfl, .inl ⟨kvs, h⟩⟩
    · exact ⟨p, rfl, .inr ⟨kvs, h⟩⟩
  · rename_i k q
    split at e
    · rename_i q2
      cases e
      cases see_r q
      cases r
      obtain ⟨_, xs, h, _⟩ := ml_of S q2
      exact ⟨_, xs, rfl, .inl h⟩
    · rename_i q2
      cases e
      cases see_r q
      cases r
      obtain ⟨_, ⟨kvs, h, _⟩ | ⟨kvs, h, _⟩⟩ := md_of S q2
      · exact ⟨_, rfl, .inl ⟨kvs, .inl h⟩⟩
      · exact ⟨_, rfl, .inr ⟨kvs, .inl h⟩⟩
    · cases e
  · cases e
theorem tyOk_str : TyOk X "str" (tyKd .str) := by
  intro pins σ H s x v I r ty
  obtain ⟨z, rfl⟩ := ty
  obtain ⟨t, rfl⟩ := r
  exact ⟨typeIs_str s z t, fun _ e => nomatch e⟩
theorem tyOk_list : TyOk X "list" (tyKd .list) := by
  intro pins σ H s x v I r ty
  obtain ⟨p, xs, rfl, h⟩ := ty
  cases r
  obtain ⟨_, its, n, _, _, e⟩ := lstR I h
  exact ⟨⟨_, e, rfl⟩, fun a q => by cases q; exact ⟨_, e, rfl⟩⟩
theorem tyOk_dict : TyOk X "dict" (tyKd .dict) := by
  intro pins σ H s x v I r ty
  obtain ⟨p, rfl, h⟩ := ty
  cases r
  obtain ⟨t1, t2, _⟩ := isD_at I h
  exact ⟨t1, fun a q => by cases q; exact t2 _ rfl⟩
/-- what a method does -/
def rMt (T : Tb) (m : Mt) : V → List V → Hp → VK → Prop := fun x xs H Q => ∃ F ι st a vs W σ, Sim T F ι st H ∧ VRel T F ι st.length a x ∧ VRelL T F ι st.length vs xs ∧ PostG (RV T) T W σ F ι st.length (mtV m a vs st) Q
/-- a method that only reads -/
theorem rMt.read {m : Mt} {xs : List V} (hm : ∀ c vs ws, mtC m c vs ws = none) (h : rMt T m x xs H Q) : ∃ F ι st d ds d', Sim T F ι st H ∧ SeenP T.K F H x d ∧ SL T.K F H xs ds ∧ mtP m d ds = some d' ∧ Ans T F H ι st.length (.p d') Q := by
  obtain ⟨F, ι, st, a, vs, W, σ, S, r, rl, p⟩ := h
  unfold mtV at p
  split at p
  · rename_i d
    split at p
    · rename_i ds q
      obtain ⟨o, h1, A⟩ := of_ans S p
      cases q2 : mtP m d ds with
      | none => rw [q2] at h1; cases h1
      | some d' =>
        rw [q2] at h1
        cases h1
        cases r with
        | p r => exact ⟨F, ι, st, d, ds, d', S, .dat r, sl_of S rl q, q2, A⟩
    · exact p.elim
  · rename_i k
    split at p
    · rename_i c hk
      rw [hm] at p
      simp only at p
      split at p
      · rename_i d ds q1 q2
        obtain ⟨o, h1, A⟩ := of_ans S p
        cases q3 : mtP m d ds with
        | none => rw [q3] at h1; cases h1
        | some d' =>
          rw [q3] at h1
          cases h1
          refine ⟨F, ι, st, d, ds, d', S, see_seen S r ?_, sl_of S rl q2, q3, A⟩
          simp [see, hk, q1]
      · exact p.elim
    · exact p.elim
  · exact p.elim
theorem mtr_by {id : String} {r' : V → List V → Hp → VK → Prop} (h : ∀ x xs H Q, r' x xs H Q → ∃ r, MtR X id r ∧ r x xs H Q) : MtR X id r' := fun pins s σ H x xs v us Q I rx rs q => by
  obtain ⟨r, h1, h2⟩ := h x xs H Q q
  exact h1 pins s σ H x xs v us Q I rx rs h2
/-- .. of a text -/
theorem rMt.str {m : Mt} {xs : List V} (hm : ∀ c vs ws, mtC m c vs ws = none) (hs : ∀ d ds d', mtP m d ds = some d' → ∃ s, d = .str s) (h : rMt T m x xs H Q) : ∃ F ι st s ds d', Sim T F ι st H ∧ x = .str s ∧ SL T.K F H xs ds ∧ mtS m s ds = some d' ∧ Ans T F H ι st.length (.p d') Q := by
  obtain ⟨F, ι, st, d, ds, d', S, h1, h2, h3, A⟩ := h.read hm
  obtain ⟨s, rfl⟩ := hs d ds d' h3
  exact ⟨F, ι, st, s, ds, d', S, h1.str, h2, h3, A⟩
theorem mm_split : MtR X "str.split" (rMt T .split) := mtr_by fun x xs H Q h => by
  obtain ⟨F, ι, st, s, ds, d', S, rfl, h2, h3, A⟩ := h.str (fun _ _ _ => rfl) (by intro d ds d' e; cases d <;> first | exact ⟨_, rfl⟩ | cases e)
  rcases ds with _ | ⟨d1, _ | ⟨d2, r⟩⟩
  · cases h3
  rotate_left
  · cases d1 <;> cases h3
  cases d1 <;> first | (cases h3; done) | skip
  · rename_i b
    obtain ⟨y, rfl, hy⟩ := h2.one'
    cases hy.str
    have h3 : (if (b.length == 0) = false ∧ s.length + 2 ≤ SZ then some (PyData.list ((Txt.split s b).map .str)) else none) = some d' := h3
    split at h3
    · rename_i hh
      cases h3
      exact ⟨_, mt_split, s, b, rfl, rfl, hh.1, by rw [← SZ_eq]; exact hh.2, A.lst S.sub (DatL.strs _)⟩
    · cases h3
theorem mm_join : MtR X "str.join" (rMt T .join) := mtr_by fun x xs H Q h => by
  obtain ⟨F, ι, st, s, ds, d', S, rfl, h2, h3, A⟩ := h.str (fun _ _ _ => rfl) (by intro d ds d' e; cases d <;> first | exact ⟨_, rfl⟩ | cases e)
  have key : ∀ (es : List PyData) (ys : List Str), strsOf es = some ys → joinSz ys s = true → d' = .str (Txt.join s ys) → ∀ p ws, xs = [.ref p] → DatL T.K F ws es → (SqL X.K H p ws ∨ SqT X.K H p ws) → ∃ r, MtR X "str.join" r ∧ r (.str s) xs H Q := fun es ys q1 q2 q3 p ws q4 l q5 => by
    subst q3 q4
    have := l.strsOf q1
    subst this
    exact ⟨_, mt_join, s, p, ys, rfl, rfl, q5, of_decide_eq_true q2, A.str⟩
  rcases ds with _ | ⟨d1, _ | ⟨d2, r⟩⟩
  · cases h3
  rotate_left
  · cases d1 <;> cases h3
  cases d1 <;> first | (cases h3; done) | skip
  · rename_i es
    obtain ⟨y, rfl, hy⟩ := h2.one'
    obtain ⟨p, ws, rfl, r1, l1⟩ := hy.list S.sub
    have h3 : (match strsOf es with | some ys => if joinSz ys s = true then some (PyData.str (Txt.join s ys)) else none | none => none) = some d' := h3
    split at h3
    · rename_i ys hys
      split at h3
      · rename_i hj
        cases h3
        exact key es ys hys hj rfl p ws rfl l1 (.inl (.inl r1))
      · cases h3
    · cases h3
  · rename_i es
    obtain ⟨y, rfl, hy⟩ := h2.one'
    obtain ⟨p, ws, rfl, r1, _, l1⟩ := hy.tup S.sub
    have h3 : (match strsOf es with | some ys => if joinSz ys s = true then some (PyData.str (Txt.join s ys)) else none | none => none) = some d' := h3
    split at h3
    · rename_i ys hys
      split at h3
      · rename_i hj
        cases h3
        exact key es ys hys hj rfl p ws rfl l1 (.inr (SqT.of r1))
      · cases h3
    · cases h3
theorem mm_lstrip : MtR X "str.lstrip" (rMt T .lstrip) := mtr_by fun x xs H Q h => by
  obtain ⟨F, ι, st, s, ds, d', S, rfl, h2, h3, A⟩ := h.str (fun _ _ _ => rfl) (by intro d ds d' e; cases d <;> first | exact ⟨_, rfl⟩ | cases e)
  rcases ds with _ | ⟨d1, _ | ⟨d2, r⟩⟩
  · cases h3
  rotate_left
  · cases d1 <;> cases h3
  cases d1 <;> first | (cases h3; done) | skip
  · rename_i b
    obtain ⟨y, rfl, hy⟩ := h2.one'
    cases hy.str
    have h3 : (if s.length ≤ SZ then some (PyData.str (Txt.lstripChars s b)) else none) = some d' := h3
    split at h3
    · rename_i hh
      cases h3
      exact ⟨_, mt_lstripChars, s, b, rfl, rfl, by rw [← SZ_eq]; exact hh, A.str⟩
    · cases h3
theorem mm_startswith : MtR X "str.startswith" (rMt T .startswith) := mtr_by fun x xs H Q h => by
  obtain ⟨F, ι, st, s, ds, d', S, rfl, h2, h3, A⟩ := h.str (fun _ _ _ => rfl) (by intro d ds d' e; cases d <;> first | exact ⟨_, rfl⟩ | cases e)
  rcases ds with _ | ⟨d1, _ | ⟨d2, r⟩⟩
  · cases h3
  rotate_left
  · cases d1 <;> cases h3
  cases d1 <;> first | (cases h3; done) | skip
  · rename_i b
    obtain ⟨y, rfl, hy⟩ := h2.one'
    cases hy.str
    cases h3
    exact ⟨_, mt_startswith, s, b, rfl, rfl, A.bl⟩
theorem mm_partition : MtR X "str.partition" (rMt T .partition) := mtr_by fun x xs H Q h => by
  obtain ⟨F, ι, st, s, ds, d', S, rfl, h2, h3, A⟩ := h.str (fun _ _ _ => rfl) (by intro d ds d' e; cases d <;> first | exact ⟨_, rfl⟩ | cases e)
  rcases ds with _ | ⟨d1, _ | ⟨d2, r⟩⟩
  · cases h3
  rotate_left
  · cases d1 <;> cases h3
  cases d1 <;> first | (cases h3; done) | skip
  · rename_i b
    obtain ⟨y, rfl, hy⟩ := h2.one'
    cases hy.str
    have h3 : (if (b.length == 0) = false ∧ s.length ≤ SZ then some (PyData.tuple [.str (Txt.partition s b).1, .str (Txt.partition s b).2.1, .str (Txt.partition s b).2.2]) else none) = some d' := h3
    split at h3
    · rename_i hh
      cases h3
      exact ⟨_, mt_partition, s, b, rfl, rfl, hh.1, by rw [← SZ_eq]; exact hh.2, A.tup S.sub (.cons (.str _) (.cons (.str _) (.cons (.str _) .nil)))⟩
    · cases h3

/-- .. of a cell that changes -/
theorem rMt.write {m : Mt} {xs : List V} (hm : ∀ d ds, mtP m d ds = none) (h : rMt T m x xs H Q) : ∃ F ι st k c v c' vs W σ, Sim T F ι st H ∧ x = .ref (ι k) ∧ k < st.length ∧ st[k]? = some c ∧ VRelL T F ι st.length vs xs ∧ mtC m c vs (vs.map (see st)) = some (v, c') ∧ PostG (RV T) T W σ F ι st.length (.ok v (st.set k c')) Q := by
  obtain ⟨F, ι, st, a, vs, W, σ, S, r, rl, p⟩ := h
  unfold mtV at p
  split at p
  · split at p
    · rw [hm] at p; exact p.elim
    · exact p.elim
  · rename_i k
    split at p
    · rename_i c hk
      split at p
      · rename_i v c' q
        cases r with
        | r hl => exact ⟨F, ι, st, k, c, v, c', vs, W, σ, S, rfl, hl, hk, rl, q, p⟩
      · split at p
        · rw [hm] at p; exact p.elim
        · exact p.elim
    · exact p.elim
  · exact p.elim
theorem put_post {k : Nat} {v : Val} {c' : Cell} {o : HO} {z : V} (S : Sim T F ι st H) (hk : k < st.length) (f0 : F (ι k) = none) (p : PostG (RV T) T W σ F ι st.length (.ok v (st.set k c')) Q) (hc : CellR T F ι st.length (upd H (ι k) o) (ι k) c') (r : VRel T F ι st.length v z) : Q z (upd H (ι k) o) :=
  p F ι _ z (Next.refl _ _ _) (by simp) (S.put hk f0 hc) (by
    show VRel T F ι (st.set k c').length v z
    rw [List.length_set]; exact r)
theorem pl_of {k : Nat} {ds : List PyData} (S : Sim T F ι st H) (e : st[k]? = some (.pl ds)) : F (ι k) = none ∧ ∃ xs, H (ι k) = some (.lst xs) ∧ DatL T.K F xs ds := S.cel k _ e
theorem pd_of {k : Nat} {es : List (PyData × PyData)} (S : Sim T F ι st H) (e : st[k]? = some (.pd es)) : F (ι k) = none ∧ ((∃ kvs, H (ι k) = some (.dK kvs) ∧ DatK T.K F kvs es) ∨ ∃ kvs, H (ι k) = some (.dT kvs) ∧ DatT T.K F kvs es) := S.cel k _ e
theorem mm_append : MtR X "list.append" (rMt T .append) := mtr_by fun x xs H Q h => by
  obtain ⟨F, ι, st, k, c, v, c', vs, W, σ, S, rfl, hk, hc, rl, q, p⟩ := h.write (by intro d ds; cases d <;> first | rfl | (cases ds <;> rfl))
  unfold mtC at q
  simp only at q
  split at q
  · split at q
    · rename_i hz
      cases q
      obtain ⟨y, rfl, hy⟩ := rl.one
      cases hy with
      | p hy =>
        obtain ⟨f0, us, h1, h2⟩ := pl_of S hc
        exact ⟨_, mt_append, _, us, y, rfl, rfl, h1, by rw [h2.length, ← SZ_eq]; exact hz, put_post S hk f0 p ⟨f0, _, upd_same, h2.append (.cons hy .nil)⟩ (.p .non)⟩
    · cases q
  · split at q
    · rename_i hz
      cases q
      obtain ⟨y, rfl, hy⟩ := rl.one
      obtain ⟨f0, us, h1, h2⟩ := ml_of S hc
      exact ⟨_, mt_append, _, us, y, rfl, rfl, h1, by rw [← h2.length, ← SZ_eq]; exact hz, put_post S hk f0 p ⟨f0, _, upd_same, h2.append (.cons hy .nil)⟩ (.p .non)⟩
    · cases q
  · cases q
theorem DatL.dropLast {K : PySem.W.Frag} {F : Hp} {vs : List V} {ds : List PyData} (h : DatL K F vs ds) : DatL K F vs.dropLast ds.dropLast := by
  rw [List.dropLast_eq_take, List.dropLast_eq_take, h.length]
  exact h.take _
theorem VRelL.dropLast {F : Hp} {ι : Nat → Addr} {n : Nat} {vs : List Val} {xs : List V} (h : VRelL T F ι n vs xs) : VRelL T F ι n vs.dropLast xs.dropLast := by
  rw [List.dropLast_eq_take, List.dropLast_eq_take, h.length]
  exact h.take _
theorem mm_pop : MtR X "list.pop" (rMt T .pop) := mtr_by fun x xs H Q h => by
  obtain ⟨F, ι, st, k, c, v, c', vs, W, σ, S, rfl, hk, hc, rl, q, p⟩ := h.write (by intro d ds; cases d <;> first | rfl | (cases ds <;> rfl))
  unfold mtC at q
  simp only at q
  split at q
  · rename_i ds
    cases rl
    cases q2 : ds[ds.length - 1]? with
    | none => rw [q2] at q; cases q
    | some d =>
      rw [q2] at q
      cases q
      obtain ⟨f0, us, h1, h2⟩ := pl_of S hc
      obtain ⟨y, hy, hd⟩ := h2.get q2
      exact ⟨_, mt_pop, _, us, y, rfl, rfl, h1, by rw [h2.length]; exact hy, put_post S hk f0 p ⟨f0, _, upd_same, h2.dropLast⟩ (.p hd)⟩
  · rename_i ds
    cases rl
    cases q2 : ds[ds.length - 1]? with
    | none => rw [q2] at q; cases q
    | some d =>
      rw [q2] at q
      cases q
      obtain ⟨f0, us, h1, h2⟩ := ml_of S hc
      obtain ⟨y, hy, hd⟩ := h2.get q2
      exact ⟨_, mt_pop, _, us, y, rfl, rfl, h1, by rw [← h2.length]; exact hy, put_post S hk f0 p ⟨f0, _, upd_same, h2.dropLast⟩ hd⟩
  · cases q
/-- xs.extend(ys), two lists -/
theorem mt_extendR : MtR X "list.extend" (fun x vs H Q => ∃ l b xs zs, x = .ref l ∧ vs = [.ref b] ∧ H l = some (.lst xs) ∧ Rd H b (.lst zs) ∧ xs.length + zs.length ≤ sizeLine ∧ Q .non (upd H l (.lst (xs ++ zs)))) := by
  intro pins s σ H x vs v us Q I rx rv h
  obtain ⟨l, b, xs, zs, rfl, rfl, hH, hB, hz, q⟩ := h
  cases rx
  obtain ⟨u, rfl, ru⟩ := rv.one
  cases ru
  obtain ⟨z, its, n, r, hl, e⟩ := I.lstM hH
  obtain ⟨z2, its2, n2, r2, hl2, e2⟩ := lstR I hB
  have hsz : its.toArray.size + its2.toArray.size ≤ sizeLine := by rw [List.size_toArray, List.size_toArray]; omega
  have hlong : ¬ (!its.toArray.isEmpty && Builtin.List.listTooLong (its.toArray.size + its2.toArray.size)) = true := by
    rw [notLongL hsz, Bool.and_false]
    exact Bool.false_ne_true
  refine call_meets F.slot_list_extend ⟨_, e, rfl⟩ F.entry_list_extend (F.args_list_extend_2 _ _)
    (AutoSeq1.list_extend_list_list_0 l its.toArray n b its2.toArray n2 hlong (by rw [List.size_toArray]; omega) (by omega)) ⟨e, e2, ?_⟩
  refine ⟨.non, _, I.lset (its' := its ++ its2) hH e (by simp) (r.append r2) ?_, rfl, q⟩
  rw [List.length_append]
  omega
theorem mm_extend : MtR X "list.extend" (rMt T .extend) := mtr_by fun x xs H Q h => by
  obtain ⟨F, ι, st, k, c, v, c', vs, W, σ, S, rfl, hk, hc, rl, q, p⟩ := h.write (by intro d ds; cases d <;> first | rfl | (cases ds <;> rfl))
  unfold mtC at q
  simp only at q
  split at q
  · rename_i ds es hw
    split at q
    · rename_i hz
      cases q
      rcases vs with _ | ⟨w, _ | ⟨w2, r⟩⟩
      · simp at hw
      rotate_left
      · simp at hw
      obtain ⟨y, rfl, hy⟩ := rl.one
      have hw : see st w = .p (.list es) := by simpa using hw
      obtain ⟨b, zs, rfl, r1, l1⟩ := (see_seen S hy hw).list S.sub
      obtain ⟨f0, us, h1, h2⟩ := pl_of S hc
      exact ⟨_, mt_extendR, _, b, us, zs, rfl, rfl, h1, r1, by rw [h2.length, l1.length, ← SZ_eq]; exact hz, put_post S hk f0 p ⟨f0, _, upd_same, h2.append l1⟩ (.p .non)⟩
    · cases q
  · cases q

theorem DatK.snoc {K : PySem.W.Frag} {F : Hp} {k : Key} {v : V} {d : PyData} (hd : Dat K F v d) : ∀ {kvs : List (Key × V)} {es : List (PyData × PyData)}, DatK K F kvs es → DatK K F (kvs ++ [(k, v)]) (es ++ [(keyD k, d)])
  | _, _, .nil => .cons hd .nil
  | _, _, .cons h1 h2 => .cons h1 (DatK.snoc hd h2)
theorem DatK.mapP {K : PySem.W.Frag} {F : Hp} {k : Key} {v : V} {d : PyData} (hd : Dat K F v d) : ∀ {kvs : List (Key × V)} {es : List (PyData × PyData)}, DatK K F kvs es → DatK K F (kvs.map fun q => if q.1 = k then (q.1, v) else q) (es.map fun q => if keyEq q.1 (keyD k) = true then (q.1, d) else q)
  | _, _, .nil => .nil
  | _, _, .cons (k := kk) h1 h2 => by
    rw [List.map_cons, List.map_cons]
    have q : keyEq (keyD kk) (keyD k) = decide (kk = k) := keyD_eqv kk k
    simp only [q]
    by_cases z : kk = k
    · rw [if_pos z, if_pos (decide_eq_true z)]
      exact .cons hd (DatK.mapP hd h2)
    · rw [if_neg z, if_neg (by simpa using z)]
      exact .cons h1 (DatK.mapP hd h2)
theorem DatK.anyEq {K : PySem.W.Frag} {F : Hp} (k : Key) : ∀ {kvs : List (Key × V)} {es : List (PyData × PyData)}, DatK K F kvs es → (kvs.any fun kv => decide (kv.1 = k)) = es.any fun q => keyEq q.1 (keyD k)
  | _, _, .nil => rfl
  | _, _, .cons (k := kk) h1 h2 => by
    rw [List.any_cons, List.any_cons, DatK.anyEq k h2]
    have q : keyEq (keyD kk) (keyD k) = decide (kk = k) := keyD_eqv kk k
    simp only [q]
theorem DatT.noK {K : PySem.W.Frag} {F : Hp} : ∀ {kvs : List (List Key × V)} {es : List (PyData × PyData)}, DatT K F kvs es → (es.any fun q => isKey1 q.1) = false
  | _, _, .nil => rfl
  | _, _, .cons h1 h2 => by rw [List.any_cons, DatT.noK h2]; rfl
theorem DatK.put {K : PySem.W.Frag} {F : Hp} {k : Key} {v : V} {d : PyData} (hd : Dat K F v d) {kvs : List (Key × V)} {es : List (PyData × PyData)} (h : DatK K F kvs es) : DatK K F (L2.putK kvs k v) (Vm.putK es (keyD k) d) := by
  unfold L2.putK Vm.putK
  have e := h.anyEq k
  rw [e]
  split
  · exact h.mapP hd
  · exact h.snoc hd
theorem DatK.puts {K : PySem.W.Frag} {F : Hp} : ∀ {more : List (Key × V)} {fs : List (PyData × PyData)} {kvs : List (Key × V)} {es : List (PyData × PyData)}, DatK K F more fs → DatK K F kvs es → DatK K F (more.foldl (fun a q => L2.putK a q.1 q.2) kvs) (fs.foldl (fun a q => Vm.putK a q.1 q.2) es)
  | _, _, _, _, .nil, h => h
  | (k, v) :: more, (_, d) :: fs, kvs, es, h0, h => by
    cases h0 with
    | cons h1 h2 => exact DatK.puts (more := more) (fs := fs) (kvs := L2.putK kvs k v) (es := Vm.putK es (keyD k) d) h2 (DatK.put h1 h)
/-- d.update(o), two dicts -/
theorem mt_updateD : MtR X "dict.update" (fun x vs H Q => ∃ (d o : Addr) (kvs more : List (Key × V)), x = .ref d ∧ vs = [.ref o] ∧ d ≠ o ∧ H d = some (.dK kvs) ∧ Rd H o (.dK more) ∧ kvs.length + more.length ≤ sizeLine ∧ Q .non (upd H d (.dK (more.foldl (fun a q => L2.putK a q.1 q.2) kvs)))) := by
  intro pins s σ H x vs v us Q I rx rv h
  obtain ⟨d, o, kvs, more, rfl, rfl, hne, hH, hB, hz, q⟩ := h
  cases rx
  obtain ⟨u, rfl, ru⟩ := rv.one
  cases ru
  obtain ⟨z, hd, vs, rel, dd⟩ := dk_of I.hok hH
  obtain ⟨z2, hd2, vs2, rel2, dd2⟩ := dk_rd I.hok hB
  refine call_meetsIn PySem.F.slot_dict_update dd.typeIs PySem.F.entry_dict_update (PySem.F.args_dict_update_2 _ _) (PySem.meets_dict_update (mixKind X.prog X.w) d o hne hd2) ⟨vs, vs2, dd, dd2, by rw [← rel.length, ← rel2.length]; exact hz, fun h' dd' _ hs => ?_⟩
  have he : ∃ q, h'.get? d = some q := let ⟨q, _, _, hq, _⟩ := dd'; ⟨q, hq⟩
  have rel3 : ∀ {more : List (Key × V)} {vs2 : List (Key × Value)} {kvs : List (Key × V)} {vs : List (Key × Value)}, KV more vs2 → KV kvs vs → KV (more.foldl (fun a q => L2.putK a q.1 q.2) kvs) (PySem.merged vs vs2) := by
    intro more vs2 kvs vs r2 r
    induction r2 generalizing kvs vs with
    | nil => exact r
    | @cons p q _ _ h1 h2 ih =>
      refine ih ?_
      have e := r.put p.1 h1.2
      show KV (L2.putK _ p.1 p.2) (stored _ q.1 q.2)
      rw [← h1.1]
      exact e
  have hl : ∀ (more kvs : List (Key × V)), (more.foldl (fun a q => L2.putK a q.1 q.2) kvs).length ≤ kvs.length + more.length := by
    intro more
    induction more with
    | nil => intro kvs; exact Nat.le_refl _
    | cons p r ih =>
      intro kvs
      have h1 := ih (L2.putK kvs p.1 p.2)
      have h2 := length_putK kvs p.1 p.2
      rw [List.foldl_cons, List.length_cons]
      omega
  exact ⟨.non, _, d_write (t' := s.toks) I (by rw [hH]; exact True.intro) hs he (dk_new (Nat.le_trans (hl _ _) hz) hd (rel3 rel2 rel) dd'), rfl, q⟩
theorem mm_update : MtR X "dict.update" (rMt T .update) := mtr_by fun x xs H Q h => by
  obtain ⟨F, ι, st, k, c, v, c', vs, W, σ, S, rfl, hk, hc, rl, q, p⟩ := h.write (by intro d ds; cases d <;> first | rfl | (cases ds <;> rfl))
  unfold mtC at q
  simp only at q
  split at q
  · rename_i ds es
    split at q
    · rename_i hz
      cases q
      obtain ⟨y, rfl, hy⟩ := rl.one
      obtain ⟨f0, hcell⟩ := pd_of S hc
      cases hy with
      | p hy =>
        cases hy with
        | @dik b zs _ r1 l1 =>
          have ne : ι k ≠ b := fun e => by
            rw [← e] at r1
            rcases r1 with h3 | ⟨_, h3⟩ <;> (rw [f0] at h3; cases h3)
          rcases hcell with ⟨us, h1, h2⟩ | ⟨us, h1, h2⟩
          · exact ⟨_, mt_updateD, _, b, us, zs, rfl, rfl, ne, h1, S.sub.rd r1, by rw [lenK h2, lenK l1, ← SZ_eq]; exact hz.1, put_post S hk f0 p ⟨f0, .inl ⟨_, upd_same, l1.puts h2⟩⟩ (.p .non)⟩
          · rw [h2.noK] at hz
            cases hz.2.1
        | dit r1 l1 =>
          rw [l1.noK] at hz
          cases hz.2.2
    · cases q
  · cases q
end
end Vm
end

section
/-! V14: method calls as steps; isinstance; membership of a written tuple. -/
namespace Vm
open PySem L2 PySem.Spec PyProof.Rows

def mName : Mt → Str
  | .split => "split"
  | .join => "join"
  | .lstrip => "lstrip"
  | .partition => "partition"
  | .rpartition => "rpartition"
  | .startswith => "startswith"
  | .append => "append"
  | .extend => "extend"
  | .pop => "pop"
  | .popAt => "pop"
  | .clear => "clear"
  | .insert => "insert"
  | .get => "get"
  | .update => "update"
  | .dpop => "pop"
  | .items => "items"
  | .values => "values"
structure MF (X : Cx) (T : Tb) (m : Mt) where
  id : String
  slot : Slot (mT m) (mName m) id
  ty : typeOf (.builtin id) = pure (.type "method_descriptor")
  rule : MtR X id (rMt T m)
/-- the methods that are covered -/
def covM : Mt → Bool
  | .split | .join | .lstrip | .partition | .startswith | .append | .extend | .pop | .update => true
  | _ => false
theorem mf_of {X : Cx} {T : Tb} : ∀ m, covM m = true → Nonempty (MF X T m)
  | .split, _ => ⟨⟨_, F.slot_str_split, F.type_str_split, mm_split⟩⟩
  | .join, _ => ⟨⟨_, F.slot_str_join, F.type_str_join, mm_join⟩⟩
  | .lstrip, _ => ⟨⟨_, F.slot_str_lstrip, F.type_str_lstrip, mm_lstrip⟩⟩
  | .partition, _ => ⟨⟨_, F.slot_str_partition, F.type_str_partition, mm_partition⟩⟩
  | .startswith, _ => ⟨⟨_, F.slot_str_startswith, F.type_str_startswith, mm_startswith⟩⟩
  | .append, _ => ⟨⟨_, F.slot_list_append, F.type_list_append, mm_append⟩⟩
  | .extend, _ => ⟨⟨_, F.slot_list_extend, F.type_list_extend, mm_extend⟩⟩
  | .pop, _ => ⟨⟨_, F.slot_list_pop, F.type_list_pop, mm_pop⟩⟩
  | .update, _ => ⟨⟨_, F.slot_dict_update, F.type_dict_update, mm_update⟩⟩
  | .rpartition, h | .popAt, h | .clear, h | .insert, h | .get, h | .dpop, h | .items, h | .values, h => by cases h
theorem pa_of : ∀ m, PlainAttrs (mT m)
  | .split | .join | .lstrip | .partition | .rpartition | .startswith => F.plainAttrs_str
  | .append | .extend | .pop | .popAt | .insert => F.plainAttrs_list
  | .clear | .get | .update | .dpop | .items | .values => F.plainAttrs_dict
theorem ty_of {X : Cx} : ∀ m, TyOk X (mT m) (tyKd (mKd m))
  | .split | .join | .lstrip | .partition | .rpartition | .startswith => tyOk_str
  | .append | .extend | .pop | .popAt | .insert => tyOk_list
  | .clear | .get | .update | .dpop | .items | .values => tyOk_dict
theorem supp_kd {m : Mt} {kd : Kd} (h : supp m kd = true) : kd = mKd m := by
  cases m <;> cases kd <;> first | rfl | cases h
section
variable {X : Cx} {T : Tb} {W : L2.WX} {Kt : Kit} {e o e1 e2 e3 : Expr} {es : List Expr} {pos p apos cpos p2 : Pos} {x : Str}
theorem de_mth {m : Mt} {a b : Ex} (hm : covM m = true) (h1 : DE X T W o (evalX Kt a)) (h2 : DA X T W (e :: es) (evalL Kt b))
    (hbase : attributeBase o (mName m) X.env (eval o X.env) = eval o X.env)
    (hfew : ((backTo cpos (starEach (e :: es) X.env)).all (fun x => !x.1) && (backToKw cpos (keywordEach [] X.env)).all (fun x => x.1.isSome)
      && decide ((e :: es).length + ([] : List Keyword).length + (if ([] : List Keyword).isEmpty then 0 else 1) < 30)) = true)
    (hline : (apos.endLine == cpos.line) = true) (hs : starEach (e :: es) X.env = (false, eval e X.env) :: starEach es X.env) (hplain : (backTo cpos (starEach es X.env)).any (·.1) = false) :
    DE X T W (.Call (.Attribute o (mName m) apos) (e :: es) [] cpos) (evalX Kt (.mth m a b)) := de_by fun σ F ι env st H Q S E p => by
  obtain ⟨mf⟩ := mf_of (X := X) (T := T) m hm
  rw [evalX] at p
  refine ⟨_, pe_mG (apos := apos) (cpos := cpos) (ty_of m) (pa_of m) mf.slot mf.ty mf.rule h1 h2 hbase hfew hline hs hplain, tEvG.imp (ev_go S E (PostG.bind (RA := RV T) p)) fun x H1 ⟨F1, ι1, v, st1, M, p1⟩ => ?_⟩
  split at p1
  · rename_i kd hk
    split at p1
    · rename_i hsup
      have e := supp_kd hsup
      subst e
      refine ⟨tyKd_of M.sim M.rel hk, tEvG.imp (ev_go M.sim (E.up M.nx M.le) (PostG.bind (RA := RL T) p1)) fun xs H2 ⟨F2, ι2, vs, st2, M2, p2⟩ => ?_⟩
      exact ⟨F2, ι2, st2, v, vs, W, σ, M2.sim, M.rel.up M2.nx M2.le, M2.rel, p2⟩
    · exact p1.elim
  · exact p1.elim
theorem de_mth0 {m : Mt} {a : Ex} (hm : covM m = true) (h1 : DE X T W o (evalX Kt a)) (hbase : attributeBase o (mName m) X.env (eval o X.env) = eval o X.env) (hline : (apos.endLine == cpos.line) = true) :
    DE X T W (.Call (.Attribute o (mName m) apos) [] [] cpos) (evalX Kt (.mth m a .nil)) := de_by fun σ F ι env st H Q S E p => by
  obtain ⟨mf⟩ := mf_of (X := X) (T := T) m hm
  rw [evalX] at p
  refine ⟨_, pe_mG0 (apos := apos) (cpos := cpos) (ty_of m) (pa_of m) mf.slot mf.ty mf.rule h1 hbase hline, tEvG.imp (ev_go S E (PostG.bind (RA := RV T) p)) fun x H1 ⟨F1, ι1, v, st1, M, p1⟩ => ?_⟩
  split at p1
  · rename_i kd hk
    split at p1
    · rename_i hsup
      have e := supp_kd hsup
      subst e
      rw [evalL] at p1
      exact ⟨tyKd_of M.sim M.rel hk, F1, ι1, st1, v, [], W, σ, M.sim, M.rel, .nil, p1⟩
    · exact p1.elim
  · exact p1.elim
/-- an expression that is never asked -/
theorem de_bad : DE X T W e (evalX Kt .bad) := ⟨fun pins s σ H Q I q => by
  obtain ⟨F, ι, env, st, S, E, p⟩ := q
  rw [evalX] at p
  exact p.elim
  all_goals (intros; contradiction)⟩
/-- x in NAME, a tuple of plain values that the module holds -/
def rIng (T : Tb) (neg : Bool) (ds : List PyData) : V → Hp → VK → Prop := fun x H Q => ∃ F ι st a d, Sim T F ι st H ∧ VRel T F ι st.length a x ∧ see st a = .p d ∧ flatD d = true ∧ ds.all flatD = true ∧ Q (.bl (if neg then !(ds.any fun z => PyData.eqv z d) else ds.any fun z => PyData.eqv z d)) H
theorem de_ing {neg : Bool} {a : Ex} {g : Nat} {q : Addr} {u : Value} {xs : List V} {ds : List PyData} (hK : X.K = T.K) (h1 : DE X T W e1 (evalX Kt a)) (hg : Gl X x) (hm : X.mg x = some (.ref q)) (hd : (x == ("__debug__" : Str)) = false) (hT : ∀ H, SqT X.K H q xs) (hD : DatL T.K (fun _ => none) xs ds) (hc : Kt.con g = some (.tuple ds))
    (hmk : behindInMarks (if neg then .NotIn else .In) (.Name x p) = false) :
    DE X T W (.Compare e1 [if neg then .NotIn else .In] [.Name x p] pos) (evalX Kt (.ing neg a g)) := by
  have h2 := pe_glob (pos := p) hg hm (show RelV (.ref q) (.ref q) from rfl) hd
  have key : OpR X (compareOp (if neg then .NotIn else .In)) (fun x y H Q => y = .ref q ∧ rIng T neg ds x H Q) := opr_by fun x y H Q h => by
    obtain ⟨rfl, F, ι, st, a, d, S, r, e, f1, f2, k⟩ := h
    have s1 := see_seen S r e
    have dx := s1.flat f1
    obtain ⟨k1, k2⟩ := inV_of dx f1 (hD.up (F := fun _ => none) (H := F) fun a o h => by cases h) f2
    cases neg with
    | false => exact ⟨_, op_in_seq, q, xs, rfl, .inr (hT H), flat_dat dx f1, k1, by rw [k2]; exact k⟩
    | true => exact ⟨_, op_notIn_seq, q, xs, rfl, .inr (hT H), flat_dat dx f1, k1, by rw [k2]; exact k⟩
  refine pe_imp (pe_cmpR (pos := pos) key h1 h2 hmk) fun σ H Q ⟨F, ι, env, st, S, E, p⟩ => ?_
  rw [evalX] at p
  refine tEvG.imp (ev_go S E (PostG.bind (RA := RV T) p)) fun x H1 ⟨F1, ι1, v, st1, M, p1⟩ => ?_
  rw [hc] at p1
  split at p1
  · rename_i d ds' q1 q2
    cases q2
    split at p1
    · rename_i hh
      exact ⟨rfl, F1, ι1, st1, v, d, M.sim, M.rel, q1, hh.1, hh.2, (ok_ans M.sim p1).bl⟩
    · exact p1.elim
  · exact p1.elim
end
end Vm
end

section
/-! V15: isinstance. -/
namespace Vm
open PySem L2 PySem.Spec PyProof.Rows

inductive TyZ (K : PySem.W.Frag) (H : Hp) : V → Value → Prop
  | x {x : V} {t : Value} : TyX K H x t → TyZ K H x t
  | fT {a : Addr} {o : Obj} {kvs : List (List Key × V)} : H a = some (.frz o (.dT kvs)) → TyZ K H (.ref a) (.type "dict")
section
variable {X : Cx} {pins : List (Addr × Obj)} {σ : L2.St} {H : Hp} {s : Shared}
theorem kit_ofZ {x : V} {u t : Value} (I : Inv X pins σ H s) (rx : RelV x u) (ty : TyZ X.K H x t) : ∃ P : Heap → Prop, PySem.W.KitX X.K u t P ∧ P s.heap ∧ u ≠ .builtin "__main__.__loader__#opaque" := by
  cases ty with
  | x ty => exact kit_of I rx ty
  | @fT a ob kvs ea =>
    cases (show u = Value.ref a from rx)
    obtain ⟨_, _, _, xs, _, o, es, ep, h1, h2, _⟩ := (show ObjOk X.prog X.w H s.heap a (.frz ob (.dT kvs)) from I.hok a _ ea)
    exact ⟨_, PySem.W.kitx_dict, ⟨o, h1, h2.1⟩, fun z => nomatch z⟩
theorem call_isiZ : CallR X (.builtin "isinstance") (fun xs H Q => ∃ (x c : V) (t u : Value) (b : Bool), xs = [x, c] ∧ ClsV c u ∧ TyZ X.K H x t ∧ PySem.W.kitOne X.K t u = some b ∧ Q (.bl b) H) := by
  intro pins s σ H xs us Q I r h
  obtain ⟨x, c, t, u, b, rfl, k, ty, e, q⟩ := h
  obtain ⟨u1, u2, rfl, r1, r2⟩ := vals2 r
  have e2 := k.eq r2
  subst e2
  obtain ⟨P, Z, p, hx⟩ := kit_ofZ I r1 ty
  exact PySem.W.kia_one Z I.kIn p e hx fun tk => ⟨.bl b, H, I.tok tk, rfl, q⟩
theorem call_isiTZ : CallR X (.builtin "isinstance") (fun xs H Q => ∃ (x : V) (tp : Addr) (cs : List V) (t : Value) (us : List Value) (b : Bool), xs = [x, .ref tp] ∧ H tp = some (.tup cs) ∧ Paired ClsV cs us ∧ TyZ X.K H x t ∧ PySem.W.kitAny X.K t us = some b ∧ Q (.bl b) H) := by
  intro pins s σ H xs us Q I r h
  obtain ⟨x, tp, cs, t, ws, b, rfl, hT, k, ty, e, q⟩ := h
  obtain ⟨u1, u2, rfl, r1, r2⟩ := vals2 r
  cases (show u2 = Value.ref tp from r2)
  obtain ⟨P, Z, p, hx⟩ := kit_ofZ I r1 ty
  obtain ⟨_, its, rv, o, h1, h2, n, h3⟩ := (show ObjOk X.prog X.w H s.heap tp (.tup cs) from I.hok tp _ hT)
  have e3 := ClsV.all k rv
  subst e3
  obtain ⟨oc, od, dt, sl⟩ := o
  simp only at h2 h3
  subst h2 h3
  exact PySem.W.kia_tup Z I.kIn p h1 e hx fun tk => ⟨.bl b, H, I.tok tk, rfl, q⟩
end
/-! ### the classes -/
def tyS : Ty → String
  | .str => "str"
  | .int => "int"
  | .bool => "bool"
  | .list => "list"
  | .tuple => "tuple"
  | .dict => "dict"
  | .verr => "ValueError"
  | .own _ => ""
def tyN : PyData → String
  | .none => "NoneType"
  | .bool _ => "bool"
  | .int _ => "int"
  | .str _ => "str"
  | .list _ => "list"
  | .tuple _ => "tuple"
  | .dict _ => "dict"
/-- the class as a value -/
def tyU (oc : Nat → Addr) : Ty → Value
  | .own c => .ref (oc c)
  | t => .type (tyS t)
def tyV1 (oc : Nat → Addr) : Ty → V
  | .own c => .ref (oc c)
  | t => .ty (tyS t)
theorem clsV_of (oc : Nat → Addr) (t : Ty) : ClsV (tyV1 oc t) (tyU oc t) := by
  cases t <;> first | exact .ty _ | exact .own _
def kitTab : List (String × Ty × Bool) := ["NoneType", "bool", "int", "str", "list", "tuple", "dict"].flatMap fun n => [Ty.str, .int, .bool, .list, .tuple, .dict, .verr].map fun t => (n, t, n == tyS t || (n == "bool" && t == .int))
theorem kitTab_ok : (kitTab.all fun q => kitB q.1 (tyS q.2.1) == some q.2.2) = true := by decide +kernel
theorem kit_b {K : PySem.W.Frag} {n : String} {t : Ty} {oc : Nat → Addr} (hn : n ∈ ["NoneType", "bool", "int", "str", "list", "tuple", "dict"]) (ht : isB t = true) : PySem.W.kitOne K (.type n) (tyU oc t) = some (n == tyS t || (n == "bool" && t == .int)) := by
  have e : tyU oc t = .type (tyS t) := by cases t <;> first | rfl | cases ht
  rw [e]
  refine kit_ty ?_
  have m : (n, t, n == tyS t || (n == "bool" && t == .int)) ∈ kitTab := List.mem_flatMap.mpr ⟨n, hn, List.mem_map.mpr ⟨t, (by cases t <;> first | (simp; done) | cases ht), rfl⟩⟩
  have := List.all_eq_true.mp kitTab_ok _ m
  simpa using this
/-- objects and exceptions: what their classes answer -/
structure OwnK (X : Cx) (T : Tb) (Kt : Kit) (oc : Nat → Addr) : Prop where
  x : ∀ c t b, Kt.isx c t = some b → False
  o : ∀ c t b, Kt.iso c t = some b → False
section
variable {X : Cx} {T : Tb} {Kt : Kit} {oc : Nat → Addr} {F H : Hp} {ι : Nat → Addr} {st : Store} {x : V} {a : Val} {d : PyData}
theorem tyD_eq {d : PyData} {t : Ty} (ht : isB t = true) : tyD d t = some (tyN d == tyS t || (tyN d == "bool" && t == .int)) := by
  cases t <;> first | (cases ht; done) | skip
  all_goals cases d <;> rfl
theorem tyN_mem (d : PyData) : tyN d ∈ ["NoneType", "bool", "int", "str", "list", "tuple", "dict"] := by cases d <;> simp [tyN]
theorem tyz_seen {K : PySem.W.Frag} (s : Sub F H) (h : SeenP K F H x d) {K' : PySem.W.Frag} : TyZ K' H x (.type (tyN d)) := by
  cases d with
  | none => cases h.non; exact .x (.base .non)
  | bool b => cases h.bl; exact .x (.base (.bl b))
  | int i => cases h.int; exact .x (.base (.int i))
  | str z => cases h.str; exact .x (.base (.str z))
  | list ds =>
    obtain ⟨p, xs, rfl, r | ⟨o, r⟩, _⟩ := h.list s
    · exact .x (.base (.lst r))
    · exact .x (.base (.frz r))
  | tuple ds =>
    obtain ⟨p, xs, rfl, r, _⟩ := h.tup s
    exact .x (.base (.tup r))
  | dict es =>
    obtain ⟨p, rfl, ⟨kvs, r | ⟨o, r⟩, _⟩ | ⟨kvs, r | ⟨o, r⟩, _⟩⟩ := h.dict s
    · exact .x (.base (.dK r))
    · exact .x (.fDict r)
    · exact .x (.base (.dT r))
    · exact .fT r
/-- a value's class and its answers -/
theorem isi_val {t0 : Ty} {b0 : Bool} (O : OwnK X T Kt oc) (S : Sim T F ι st H) (r : VRel T F ι st.length a x) (e0 : isiV Kt st a t0 = some b0) : ∃ tv, TyZ X.K H x tv ∧ ∀ t b, isiV Kt st a t = some b → PySem.W.kitOne X.K tv (tyU oc t) = some b := by
  have fin : ∀ n, n ∈ ["NoneType", "bool", "int", "str", "list", "tuple", "dict"] → TyZ X.K H x (.type n) → (∀ t b, isiV Kt st a t = some b → isB t = true ∧ b = (n == tyS t || (n == "bool" && t == .int))) → ∃ tv, TyZ X.K H x tv ∧ ∀ t b, isiV Kt st a t = some b → PySem.W.kitOne X.K tv (tyU oc t) = some b := fun n hn z h => ⟨_, z, fun t b e => by
    obtain ⟨h1, h2⟩ := h t b e
    rw [h2]
    exact kit_b hn h1⟩
  have s1 : ∀ {n : String} {t : Ty} {b : Bool}, (n = "tuple" ∨ n = "list" ∨ n = "dict") → isB t = true → b = (match t with | .tuple => decide (n = "tuple") | .list => decide (n = "list") | .dict => decide (n = "dict") | _ => false) → b = (n == tyS t || (n == "bool" && t == .int)) := by
    intro n t b hn ht hb
    rcases hn with rfl | rfl | rfl <;> (cases t <;> first | (cases ht; done) | exact hb)
  cases q : see st a with
  | p d =>
    refine fin (tyN d) (tyN_mem d) (tyz_seen S.sub (see_seen S r q)) fun t b e => ?_
    unfold isiV at e
    rw [q] at e
    simp only at e
    split at e
    · rename_i ht
      rw [tyD_eq ht] at e
      cases e
      exact ⟨ht, rfl⟩
    · cases e
  | x c fs =>
    unfold isiV at e0
    rw [q] at e0
    exact (O.x _ _ _ e0).elim
  | t xs =>
    cases see_t q
    cases r with
    | t h1 h2 =>
      refine fin "tuple" (by simp) (.x (.base (.tup (S.sub.tup h1)))) fun t b e => ?_
      unfold isiV at e
      rw [q] at e
      simp only at e
      split at e
      · rename_i ht
        cases e
        exact ⟨ht, s1 (.inl rfl) ht (by cases t <;> rfl)⟩
      · cases e
  | l xs =>
    cases see_l q
    cases r with
    | @l p _ _ h1 h2 =>
      have z : TyZ X.K H (.ref p) (.type "list") := by
        rcases S.sub.rd (.inl h1) with r | ⟨o, r⟩
        · exact .x (.base (.lst r))
        · exact .x (.base (.frz r))
      refine fin "list" (by simp) z fun t b e => ?_
      unfold isiV at e
      rw [q] at e
      simp only at e
      split at e
      · rename_i ht
        cases e
        exact ⟨ht, s1 (.inr (.inl rfl)) ht (by cases t <;> rfl)⟩
      · cases e
  | r k =>
    cases see_r q
    cases r with
    | r hk =>
      unfold isiV at e0
      rw [q] at e0
      simp only at e0
      split at e0
      · exact (O.o _ _ _ e0).elim
      · rename_i vs hc
        obtain ⟨_, us, h1, _⟩ := ml_of S hc
        refine fin "list" (by simp) (.x (.base (.lst h1))) fun t b e => ?_
        unfold isiV at e
        rw [q] at e
        simp only [hc] at e
        split at e
        · rename_i ht
          cases e
          exact ⟨ht, s1 (.inr (.inl rfl)) ht (by cases t <;> rfl)⟩
        · cases e
      · rename_i vs hc
        obtain ⟨_, hh⟩ := md_of S hc
        have z : TyZ X.K H (.ref (ι k)) (.type "dict") := by
          rcases hh with ⟨us, h1, _⟩ | ⟨us, h1, _⟩
          · exact .x (.base (.dK h1))
          · exact .x (.base (.dT h1))
        refine fin "dict" (by simp) z fun t b e => ?_
        unfold isiV at e
        rw [q] at e
        simp only [hc] at e
        split at e
        · rename_i ht
          cases e
          exact ⟨ht, s1 (.inr (.inr rfl)) ht (by cases t <;> rfl)⟩
        · cases e
      · cases e0
theorem isi_any {tv : Value} : ∀ (ts : List Ty) (b : Bool), (∀ t b, isiV Kt st a t = some b → PySem.W.kitOne X.K tv (tyU oc t) = some b) → isiAny Kt st a ts = some b → PySem.W.kitAny X.K tv (ts.map (tyU oc)) = some b
  | [], b, _, e => e
  | t :: ts, b, h, e => by
    unfold isiAny at e
    rw [List.map_cons]
    unfold PySem.W.kitAny
    cases q : isiV Kt st a t with
    | none => rw [q] at e; cases e
    | some k =>
      rw [q] at e
      rw [h t k q]
      cases k with
      | true => exact e
      | false => exact isi_any ts b h e
/-- what a class expression stands for -/
def tV (v : V) : TE := fun _ H Q => Q v H
def tVs (vs : List V) : TA := fun _ H Q => Q vs H
end
section
variable {X : Cx} {T : Tb} {W : L2.WX} {Kt : Kit} {e e1 e2 e3 : Expr} {es : List Expr} {pos p p2 : Pos} {oc : Nat → Addr}
theorem pvs_nil : PA X [] (tVs []) := pa_imp pa_nil fun σ H Q h => h
theorem pvs_cons {v : V} {vs : List V} (h1 : PE X e (tV v)) (h2 : PA X es (tVs vs)) (hs : starEach (e :: es) X.env = (false, eval e X.env) :: starEach es X.env) : PA X (e :: es) (tVs (v :: vs)) := pa_imp (pa_cons h1 h2 hs) fun σ H Q h => h
theorem pv_ty {x : Str} {n : String} (hg : Gl X x) (hm : X.mg x = none) (hv : bootBuiltins x = some (.type n)) (hn : x ≠ "__name__") (hd : (x == ("__debug__" : Str)) = false) : PE X (.Name x pos) (tV (.ty n)) := pe_imp (pe_bltn hg hm hv (show RelV (.ty n) (.type n) from rfl) hn hd) fun σ H Q h => h
theorem pv_ref {x : Str} {q : Addr} (hg : Gl X x) (hm : X.mg x = some (.ref q)) (hd : (x == ("__debug__" : Str)) = false) : PE X (.Name x pos) (tV (.ref q)) := pe_imp (pe_glob hg hm (show RelV (.ref q) (.ref q) from rfl) hd) fun σ H Q h => h
theorem de_isi1 {a : Ex} {t : Ty} (O : OwnK X T Kt oc) (h1 : DE X T W e1 (evalX Kt a)) (h2 : PE X e2 (tV (tyV1 oc t))) (hg : Gl X "isinstance") (hm : X.mg "isinstance" = none)
    (hs1 : starEach [e1, e2] X.env = (false, eval e1 X.env) :: starEach [e2] X.env) (hs2 : starEach [e2] X.env = (false, eval e2 X.env) :: starEach [] X.env) (hpl : (backTo pos (starEach [e2] X.env)).any (·.1) = false) :
    DE X T W (.Call (.Name "isinstance" p) [e1, e2] [] pos) (evalX Kt (.isi a [t])) := pe_imp (pe_callB (p := p) call_isiZ hg hm boot_isinstance (pa_cons h1 (pvs_cons h2 pvs_nil hs2) hs1) (by decide) (by decide) hs1 hpl) fun σ H Q ⟨F, ι, env, st, S, E, q⟩ => by
  rw [evalX] at q
  refine tEvG.imp (ev_go S E (PostG.bind (RA := RV T) q)) fun x H1 ⟨F1, ι1, v, st1, M, q1⟩ => ?_
  split at q1
  · rename_i b hb
    have e0 : ∃ b0, isiV Kt st1 v t = some b0 := by
      unfold isiAny at hb
      cases z : isiV Kt st1 v t with
      | none => rw [z] at hb; cases hb
      | some k => exact ⟨k, rfl⟩
    obtain ⟨b0, e0⟩ := e0
    obtain ⟨tv, ty, k⟩ := isi_val O M.sim M.rel e0
    have hb' : b0 = b := by
      unfold isiAny at hb
      rw [e0] at hb
      cases b0 <;> (simp [isiAny] at hb; exact hb.symm)
    subst hb'
    exact ⟨x, _, tv, _, b0, rfl, clsV_of oc t, ty, k t b0 e0, (ok_ans M.sim q1).bl⟩
  · exact q1.elim
theorem de_isiT {a : Ex} {t : Ty} {ts : List Ty} {k : Nat} (O : OwnK X T Kt oc) (h1 : DE X T W e1 (evalX Kt a)) (h2 : PA X es (tVs ((t :: ts).map (tyV1 oc)))) (hl : (t :: ts).length ≤ SZ) (hg : Gl X "isinstance") (hm : X.mg "isinstance" = none)
    (hs1 : starEach [e1, .Tuple es k p2] X.env = (false, eval e1 X.env) :: starEach [.Tuple es k p2] X.env) (hs2 : starEach [.Tuple es k p2] X.env = (false, eval (.Tuple es k p2) X.env) :: starEach [] X.env) (hpl : (backTo pos (starEach [.Tuple es k p2] X.env)).any (·.1) = false) :
    DE X T W (.Call (.Name "isinstance" p) [e1, .Tuple es k p2] [] pos) (evalX Kt (.isi a (t :: ts))) := pe_imp (pe_callB (p := p) call_isiTZ hg hm boot_isinstance (pa_cons h1 (pa_cons (pe_tup h2) pa_nil hs2) hs1) (by decide) (by decide) hs1 hpl) fun σ H Q ⟨F, ι, env, st, S, E, q⟩ => by
  rw [evalX] at q
  refine tEvG.imp (ev_go S E (PostG.bind (RA := RV T) q)) fun x H1 ⟨F1, ι1, v, st1, M, q1⟩ => ?_
  split at q1
  · rename_i b hb
    have e0 : ∃ b0, isiV Kt st1 v t = some b0 := by
      unfold isiAny at hb
      cases z : isiV Kt st1 v t with
      | none => rw [z] at hb; cases hb
      | some k => exact ⟨k, rfl⟩
    obtain ⟨b0, e0⟩ := e0
    refine ⟨by rw [List.length_map, ← SZ_eq]; exact hl, fun tp htp => ?_⟩
    have S2 := M.sim.fx (FX.one (o := .tup ((t :: ts).map (tyV1 oc))) htp M.sim.sub)
    have r2 := M.rel.up (FX.one (o := .tup ((t :: ts).map (tyV1 oc))) htp M.sim.sub).next (Nat.le_refl _)
    obtain ⟨tv, ty, k⟩ := isi_val O S2 r2 e0
    have P : Paired ClsV ((t :: ts).map (tyV1 oc)) ((t :: ts).map (tyU oc)) := by
      generalize t :: ts = l
      induction l with
      | nil => exact .nil
      | cons a l ih => exact .cons (clsV_of oc a) ih
    exact ⟨x, tp, _, tv, _, b, rfl, upd_same, P, ty, isi_any _ _ k hb, ok_ans M.sim q1 _ _ _ (FX.one htp M.sim.sub) (.p (.bl b))⟩
  · exact q1.elim
end
end Vm
end

section
/-! V16: what is walked. -/
namespace Vm
open PySem L2 PySem.Spec PyProof.Rows

theorem SameT.refl (T : Tb) : SameT T T := ⟨rfl, rfl, rfl⟩
theorem SameT.trans {T1 T2 T3 : Tb} (a : SameT T1 T2) (b : SameT T2 T3) : SameT T1 T3 := ⟨b.K.trans a.K, b.ex.trans a.ex, b.ob.trans a.ob⟩
/-- while what is frozen stands, J gives the items -/
structure Wk (T : Tb) (F0 : Hp) (ι0 : Nat → Addr) (n0 : Nat) (vs : List Val) (J : It) : Prop where
  goes : ∀ T' F ι st H i v, SameT T T' → Next F0 ι0 n0 F ι → n0 ≤ st.length → Sim T' F ι st H → vs[i]? = some v → J.go i H
  yields : ∀ T' F ι st H i v x H', SameT T T' → Next F0 ι0 n0 F ι → n0 ≤ st.length → Sim T' F ι st H → vs[i]? = some v → J.yld i H x H' → ∃ F', FX F H F' H' ∧ VRel T F' ι st.length v x
  stops : ∀ T' F ι st H, SameT T T' → Next F0 ι0 n0 F ι → n0 ≤ st.length → Sim T' F ι st H → J.stop vs.length H
abbrev RI (T : Tb) : Hp → (Nat → Addr) → Nat → List Val → It → Prop := fun F ι n vs J => Wk T F ι n vs J
abbrev DI (X : Cx) (T : Tb) (W : L2.WX) (tg e : Expr) (f : Env → Store → R (List Val)) : Prop := PI X tg e (tEvG (RI T) T W f)
theorem pi_imp {X : Cx} {tg e : Expr} {t t' : TI} (h : PI X tg e t) (i : ∀ σ H Q, t' σ H Q → t σ H Q) : PI X tg e t' := ⟨fun pins s σ H Q I q => h.run pins s σ H Q I (i _ _ _ q)⟩
theorem pi_by {X : Cx} {tg e : Expr} {t' : TI} (h : ∀ σ H Q, t' σ H Q → ∃ t, PI X tg e t ∧ t σ H Q) : PI X tg e t' := ⟨fun pins s σ H Q I q => by
  obtain ⟨t, h1, h2⟩ := h σ H Q q
  exact h1.run pins s σ H Q I h2⟩
theorem di_by {X : Cx} {T : Tb} {W : L2.WX} {tg e : Expr} {f : Env → Store → R (List Val)} (h : ∀ σ F ι env st H Q, Sim T F ι st H → EnvR T F ι st.length σ env → PostG (RI T) T W σ F ι st.length (f env st) Q → ∃ t, PI X tg e t ∧ t σ H Q) : DI X T W tg e f :=
  pi_by fun σ H Q ⟨F, ι, env, st, S, E, p⟩ => h σ F ι env st H Q S E p
section
variable {T : Tb} {F H : Hp} {ι : Nat → Addr} {n : Nat} {st : Store}
theorem Wk.list {a : Addr} {xs : List V} {vs : List Val} (h : Rd F a (.lst xs)) (r : VRelL T F ι n vs xs) : Wk T F ι n vs (Itl T.K a) where
  goes T' F' ι' st H i v t N hn S e := by
    obtain ⟨x, hx, _⟩ := r.get e
    exact ⟨xs, x, .inl (S.sub.rd (Sub.rd N.sub h)), hx⟩
  yields T' F' ι' st H i v x H' t N hn S e y := by
    obtain ⟨rfl, y⟩ := y
    obtain ⟨x', hx, hr⟩ := r.get e
    have := y xs (.inl (S.sub.rd (Sub.rd N.sub h)))
    rw [hx] at this
    cases this
    exact ⟨F', FX.refl _ _, hr.up N hn⟩
  stops T' F' ι' st H t N hn S := ⟨xs, .inl (S.sub.rd (Sub.rd N.sub h)), by rw [r.length]; exact Nat.le_refl _⟩
theorem Wk.tup {a : Addr} {xs : List V} {vs : List Val} (h : F a = some (.tup xs)) (r : VRelL T F ι n vs xs) : Wk T F ι n vs (Itt T.K a) where
  goes T' F' ι' st H i v t N hn S e := by
    obtain ⟨x, hx, _⟩ := r.get e
    exact ⟨xs, x, SqT.of (S.sub.tup (N.f _ _ h)), hx⟩
  yields T' F' ι' st H i v x H' t N hn S e y := by
    obtain ⟨rfl, y⟩ := y
    obtain ⟨x', hx, hr⟩ := r.get e
    have := y xs (SqT.of (S.sub.tup (N.f _ _ h)))
    rw [hx] at this
    cases this
    exact ⟨F', FX.refl _ _, hr.up N hn⟩
  stops T' F' ι' st H t N hn S := ⟨xs, SqT.of (S.sub.tup (N.f _ _ h)), by rw [r.length]; exact Nat.le_refl _⟩
theorem Wk.str {z : Str} : Wk T F ι n ((charsOf z).map .p) (Its z) := by
  have len : ((charsOf z).map Val.p).length = z.cps.size := by simp [charsOf]
  have at_ : ∀ {i : Nat} {v : Val}, ((charsOf z).map Val.p)[i]? = some v → ∃ c, z.cps[i]? = some c ∧ v = .p (.str ⟨#[c]⟩) := fun {i v} e => by
    unfold charsOf at e
    rw [List.getElem?_map, List.getElem?_map, Array.getElem?_toList] at e
    cases q : z.cps[i]? with
    | none => rw [q] at e; cases e
    | some c => rw [q] at e; cases e; exact ⟨c, rfl, rfl⟩
  refine ⟨fun T' F' ι' st H i v t N hn S e => ?_, fun T' F' ι' st H i v x H' t N hn S e y => ?_, fun T' F' ι' st H t N hn S => ?_⟩
  · obtain ⟨c, h, _⟩ := at_ e
    exact (Array.getElem?_eq_some_iff.mp h).1
  · obtain ⟨c, h, rfl⟩ := at_ e
    obtain ⟨rfl, c', h', rfl⟩ := y
    rw [h] at h'
    cases h'
    exact ⟨F', FX.refl _ _, .p (.str _)⟩
  · rw [len]
    exact Nat.le_refl _
theorem Wk.range {lo hi : Int} : Wk T F ι n (rangeV lo hi) (Itr lo (hi - lo).toNat) := by
  have len : (rangeV lo hi).length = (hi - lo).toNat := by simp [rangeV]
  refine ⟨fun T' F' ι' st H i v t N hn S e => ?_, fun T' F' ι' st H i v x H' t N hn S e y => ?_, fun T' F' ι' st H t N hn S => ?_⟩
  · rcases Nat.lt_or_ge i (rangeV lo hi).length with h | h
    · rw [← len]; exact h
    · rw [List.getElem?_eq_none h] at e; cases e
  · obtain ⟨rfl, rfl⟩ := y
    unfold rangeV at e
    rw [List.getElem?_map] at e
    rcases Nat.lt_or_ge i (hi - lo).toNat with h | h
    · rw [List.getElem?_range h] at e
      cases e
      exact ⟨F', FX.refl _ _, .p (.int _)⟩
    · rw [List.getElem?_eq_none (by simpa using h)] at e; cases e
  · rw [len]; exact Nat.le_refl _
theorem enumV_get : ∀ (vs : List Val) (m i : Nat) (v : Val), (enumV m vs)[i]? = some v → ∃ w, vs[i]? = some w ∧ v = mkT [.p (.int ((m + i : Nat) : Int)), w]
  | [], _, _, _, e => by cases e
  | w :: vs, m, 0, _, e => by cases e; exact ⟨w, rfl, rfl⟩
  | w :: vs, m, i + 1, v, e => by
    obtain ⟨w', h1, h2⟩ := enumV_get vs (m + 1) i v e
    exact ⟨w', h1, by rw [h2, show m + 1 + i = m + (i + 1) by omega]⟩
theorem enumV_len : ∀ (vs : List Val) (m : Nat), (enumV m vs).length = vs.length
  | [], _ => rfl
  | w :: vs, m => by simp [enumV, enumV_len vs (m + 1)]
/-- a new pair -/
theorem pair_new {T' : Tb} {p : Addr} {x y : V} {v w : Val} (S : Sim T' F ι st H) (hp : H p = none) (r1 : VRel T F ι st.length v x) (r2 : VRel T F ι st.length w y) :
    ∃ F', FX F H F' (upd H p (.tup [x, y])) ∧ VRel T F' ι st.length (mkT [v, w]) (.ref p) :=
  ⟨_, FX.one hp S.sub, mkT_rel upd_same ((VRelL.cons r1 (.cons r2 .nil)).up (FX.one (o := .tup [x, y]) hp S.sub).next (Nat.le_refl _))⟩
theorem Wk.enum {a : Addr} {xs : List V} {vs : List Val} (h : Rd F a (.lst xs)) (r : VRelL T F ι n vs xs) : Wk T F ι n (enumV 0 vs) (Ite T.K a) where
  goes T' F' ι' st H i v t N hn S e := by
    obtain ⟨w, hw, _⟩ := enumV_get _ _ _ _ e
    obtain ⟨x, hx, _⟩ := r.get hw
    exact ⟨xs, x, .inl (S.sub.rd (Sub.rd N.sub h)), hx⟩
  yields T' F' ι' st H i v x H' t N hn S e y := by
    obtain ⟨w, hw, rfl⟩ := enumV_get _ _ _ _ e
    obtain ⟨p, z, rfl, hp, rfl, hz⟩ := y
    obtain ⟨x', hx, hr⟩ := r.get hw
    have := hz xs (.inl (S.sub.rd (Sub.rd N.sub h)))
    rw [hx] at this
    cases this
    have e0 : ((0 + i : Nat) : Int) = (i : Int) := by simp
    rw [e0]
    exact pair_new S hp (.p (.int _)) (hr.up N hn)
  stops T' F' ι' st H t N hn S := ⟨xs, .inl (S.sub.rd (Sub.rd N.sub h)), by rw [enumV_len, r.length]; exact Nat.le_refl _⟩
theorem zip_get {vs ws : List Val} {i : Nat} {v : Val} (e : ((vs.zip ws).map fun q => mkT [q.1, q.2])[i]? = some v) : ∃ a b, vs[i]? = some a ∧ ws[i]? = some b ∧ v = mkT [a, b] := by
  rw [List.getElem?_map] at e
  cases q : (vs.zip ws)[i]? with
  | none => rw [q] at e; cases e
  | some p =>
    rw [q] at e
    cases e
    obtain ⟨h1, h2⟩ := List.getElem?_zip_eq_some.mp q
    exact ⟨p.1, p.2, h1, h2, rfl⟩
theorem Wk.zipL {a b : Addr} {xs ys : List V} {vs ws : List Val} (h : Rd F a (.lst xs)) (r : VRelL T F ι n vs xs) (h' : Rd F b (.lst ys)) (r' : VRelL T F ι n ws ys) : Wk T F ι n ((vs.zip ws).map fun q => mkT [q.1, q.2]) (Itz T.K a b) where
  goes T' F' ι' st H i v t N hn S e := by
    obtain ⟨v1, v2, h1, h2, _⟩ := zip_get e
    obtain ⟨x, hx, _⟩ := r.get h1
    obtain ⟨y, hy, _⟩ := r'.get h2
    exact ⟨xs, ys, x, y, .inl (S.sub.rd (Sub.rd N.sub h)), .inl (S.sub.rd (Sub.rd N.sub h')), hx, hy⟩
  yields T' F' ι' st H i v x H' t N hn S e y := by
    obtain ⟨v1, v2, h1, h2, rfl⟩ := zip_get e
    obtain ⟨x, hx, r1⟩ := r.get h1
    obtain ⟨y', hy, r2⟩ := r'.get h2
    obtain ⟨p, z1, z2, rfl, hp, rfl, k1, k2⟩ := y
    have e1 := k1 xs (.inl (S.sub.rd (Sub.rd N.sub h)))
    have e2 := k2 ys (.inl (S.sub.rd (Sub.rd N.sub h')))
    rw [hx] at e1
    rw [hy] at e2
    cases e1
    cases e2
    exact pair_new S hp (r1.up N hn) (r2.up N hn)
  stops T' F' ι' st H t N hn S := ⟨xs, ys, .inl (S.sub.rd (Sub.rd N.sub h)), .inl (S.sub.rd (Sub.rd N.sub h')), by
    rw [List.length_map, List.length_zip, r.length, r'.length]; omega⟩
end
end Vm
end

section
/-! V17: what a for and a comprehension walk. -/
namespace Vm
open PySem L2 PySem.Spec PyProof.Rows

section
variable {α β : Type} {RB : Hp → (Nat → Addr) → Nat → α → β → Prop} {T : Tb} {W : L2.WX} {σ : L2.St} {F H : Hp} {ι : Nat → Addr} {st : Store} {v : Val} {x : V} {g : Val → Store → R α} {Q : β → Hp → Prop}
theorem set_same {k : Nat} {c : Cell} (h : st[k]? = some c) : st.set k c = st := by
  apply List.ext_getElem?
  intro i
  by_cases e : k = i
  · subst e
    rw [List.getElem?_set_self' , h]
    rfl
  · rw [List.getElem?_set_ne e]
/-- a pure cell is frozen -/
theorem frz_post (S : Sim T F ι st H) (r : VRel T F ι st.length v x) (p : PostG RB T W σ F ι st.length ((frzV v st).bind g) Q) :
    ∃ F' v' st', Next F ι st.length F' ι ∧ st'.length = st.length ∧ Sim T F' ι st' H ∧ VRel T F' ι st'.length v' x ∧ (∀ k, v' ≠ .r k) ∧ frzV v st = .ok v' st' ∧ PostG RB T W σ F' ι st'.length (g v' st') Q := by
  have stay : (∀ k, v ≠ .r k) → frzV v st = .ok v st := fun h => by
    cases v with
    | r k => exact absurd rfl (h k)
    | _ => rfl
  by_cases hr : ∃ k, v = .r k
  · obtain ⟨k, rfl⟩ := hr
    have hz2 : frzV (.r k) st = (match st[k]? with
      | some c => match seeC c with
        | some d => .ok (.p d) (st.set k (.fz d))
        | none => .no
      | none => .no) := rfl
    rw [hz2] at p
    clear hz2
    cases hc : st[k]? with
    | none => rw [hc] at p; exact p.elim
    | some c =>
      rw [hc] at p
      simp only at p
      cases q : seeC c with
      | none => rw [q] at p; exact p.elim
      | some d =>
        rw [q] at p
        simp only [R.bind_ok] at p
        cases r with
        | r hk =>
          have fin : ∀ o, F (ι k) = none → H (ι k) = some o → Dat T.K (upd F (ι k) o) (.ref (ι k)) d → ∃ F' v' st', Next F ι st.length F' ι ∧ st'.length = st.length ∧ Sim T F' ι st' H ∧ VRel T F' ι st'.length v' (.ref (ι k)) ∧ (∀ k, v' ≠ .r k) ∧ frzV (.r k) st = .ok v' st' ∧ PostG RB T W σ F' ι st'.length (g v' st') Q := fun o f0 ho hd => by
            obtain ⟨S2, N⟩ := S.freeze hk f0 ho hd
            exact ⟨_, .p d, st.set k (.fz d), N, by simp, S2, .p hd, (fun _ z => by cases z), by unfold frzV; simp only [hc, q], by rw [List.length_set]; exact p.up N (Nat.le_refl _) fun _ _ _ _ => trivial⟩
          have cc := S.cel k c hc
          cases c with
          | pl ds =>
            cases q
            obtain ⟨f0, xs, h1, h2⟩ := cc
            exact fin _ f0 h1 (.lst (.inl upd_same) (h2.up (F := F) (H := upd F (ι k) (.lst xs)) fun a u e => .inl (by rw [upd_ne (ne_of_none e f0)]; exact e)))
          | pd es =>
            cases q
            obtain ⟨f0, ⟨kvs, h1, h2⟩ | ⟨kvs, h1, h2⟩⟩ := cc
            · exact fin _ f0 h1 (.dik (.inl upd_same) (h2.up (T := T) (F := F) (F' := upd F (ι k) (.dK kvs)) fun a u e => .inl (by rw [upd_ne (ne_of_none e f0)]; exact e)))
            · exact fin _ f0 h1 (.dit (.inl upd_same) (h2.up (T := T) (F := F) (F' := upd F (ι k) (.dT kvs)) fun a u e => .inl (by rw [upd_ne (ne_of_none e f0)]; exact e)))
          | fz d' =>
            cases q
            rw [set_same hc] at p
            exact ⟨F, .p d, st, Next.refl _ _ _, rfl, S, .p cc.2, (fun _ z => by cases z), by unfold frzV; simp only [hc, seeC]; rw [set_same hc], p⟩
          | lk c => exact cc.elim
          | ml _ => cases q
          | md _ => cases q
          | ob _ _ => cases q
  · have hv : ∀ k, v ≠ .r k := fun k e => hr ⟨k, e⟩
    rw [stay hv] at p
    exact ⟨F, v, st, Next.refl _ _ _, rfl, S, r, hv, stay hv, p⟩
end
section
variable {T : Tb} {F H : Hp} {ι : Nat → Addr} {n : Nat} {st : Store} {v : Val} {x : V}
theorem asL_rd {vs : List Val} (r : VRel T F ι n v x) (e : asL v = some vs) : ∃ p xs, x = .ref p ∧ Rd F p (.lst xs) ∧ VRelL T F ι n vs xs := by
  cases v with
  | p d =>
    cases d with
    | list ds =>
      cases e
      cases r with
      | p r => cases r with | lst h1 h2 => exact ⟨_, _, rfl, h1, .ofDat h2⟩
    | _ => cases e
  | l ws =>
    cases e
    cases r with
    | l h1 h2 => exact ⟨_, _, rfl, .inl h1, h2⟩
  | _ => cases e
end
section
variable {X : Cx} {T : Tb} {W : L2.WX} {Kt : Kit} {tg e e1 e2 : Expr} {es : List Expr} {pos p p2 : Pos}
theorem frzV_er {v : Val} {st : Store} {c : Nat} {fs : List (Str × PyData)} {s : Store} : frzV v st ≠ .er c fs s := by
  unfold frzV
  split
  · split
    · split
      · exact fun z => by cases z
      · exact fun z => by cases z
    · exact fun z => by cases z
  · exact fun z => by cases z
/-- one value whose items are taken -/
theorem di_cons {a b : Ex} (hK : X.K = T.K) (h1 : DE X T W e (evalX Kt a)) : DI X T W tg e (evalI Kt (.cons a b)) := by
  refine di_by fun σ F ι env st H Q S E p => ?_
  rw [evalI] at p
  cases q : evalX Kt a env st with
  | no => rw [q] at p; exact p.elim
  | er c fs s => exact ⟨_, pi_str h1, tEvG.imp (ev_go S E (PostG.bindE (RA := RV T) p)) fun x H1 ⟨F1, ι1, v, st1, M, q1, p1⟩ => by rw [q] at q1; cases q1⟩
  | ok v st1 =>
    cases q2 : frzV v st1 with
    | no => rw [q] at p; simp only [R.bind_ok, q2] at p; exact p.elim
    | er c fs s => exact absurd q2 frzV_er
    | ok v' st2 =>
      have step : ∀ x H1, (∃ F1 ι1 v st1, Mid2 (RV T) T σ H1 F1 ι1 env v x st1 ∧ evalX Kt a env st = .ok v st1 ∧ PostG (RI T) T W σ F1 ι1 st1.length ((frzV v st1).bind fun x st1 => match itemsF x with
          | some vs => .ok vs st1
          | none => .no) Q) → ∃ F2 ι2, Sim T F2 ι2 st2 H1 ∧ VRel T F2 ι2 st2.length v' x ∧ PostG (RI T) T W σ F2 ι2 st2.length ((match itemsF v' with
          | some vs => .ok vs st2
          | none => .no) : R (List Val)) Q := fun x H1 ⟨F1, ι1, w, st3, M, q1, p1⟩ => by
        rw [q] at q1
        cases q1
        obtain ⟨F2, w', st4, N, hl, S2, r2, hn, k2, p2⟩ := frz_post M.sim M.rel p1
        rw [q2] at k2
        cases k2
        exact ⟨F2, ι1, S2, r2, p2⟩
      have go : ∀ {Q' : VK}, (∀ x H1, (∃ F2 ι2, Sim T F2 ι2 st2 H1 ∧ VRel T F2 ι2 st2.length v' x ∧ PostG (RI T) T W σ F2 ι2 st2.length ((match itemsF v' with
          | some vs => .ok vs st2
          | none => .no) : R (List Val)) Q) → Q' x H1) → tEvG (RV T) T W (evalX Kt a) σ H Q' := fun {Q'} k =>
        tEvG.imp (ev_go S E (PostG.bindE (RA := RV T) p)) fun x H1 ⟨F1, ι1, v, st1, M, q1, p1⟩ => k x H1 (step x H1 ⟨F1, ι1, v, st1, ⟨M.sim, E.up M.nx M.le, M.rel⟩, q1, p1⟩)
      have bad : itemsF v' = none → False := fun z => by
        rw [q] at p
        simp only [R.bind_ok, q2, z] at p
        exact p
      cases v' with
      | p d =>
        cases d with
        | list ds =>
          refine ⟨_, pi_list h1, go fun x H1 ⟨F2, ι2, S2, r2, p2⟩ => ?_⟩
          cases r2 with
          | p r2 =>
            cases r2 with
            | lst k1 k2 => exact ⟨_, rfl, ⟨_, .inl (S2.sub.rd k1)⟩, p2.now (Next.refl _ _ _) (Nat.le_refl _) S2 (by rw [hK]; exact Wk.list k1 (.ofDat k2))⟩
        | tuple ds =>
          refine ⟨_, pi_tup h1, go fun x H1 ⟨F2, ι2, S2, r2, p2⟩ => ?_⟩
          cases r2 with
          | p r2 =>
            cases r2 with
            | tup k1 k2 => exact ⟨_, rfl, ⟨_, SqT.of (S2.sub.tup k1)⟩, p2.now (Next.refl _ _ _) (Nat.le_refl _) S2 (by rw [hK]; exact Wk.tup k1 (.ofDat k2))⟩
        | str z =>
          refine ⟨_, pi_str h1, go fun x H1 ⟨F2, ι2, S2, r2, p2⟩ => ?_⟩
          cases r2 with
          | p r2 =>
            cases r2
            exact ⟨_, rfl, p2.now (Next.refl _ _ _) (Nat.le_refl _) S2 Wk.str⟩
        | _ => exact (bad rfl).elim
      | t vs =>
        refine ⟨_, pi_tup h1, go fun x H1 ⟨F2, ι2, S2, r2, p2⟩ => ?_⟩
        cases r2 with
        | t k1 k2 => exact ⟨_, rfl, ⟨_, SqT.of (S2.sub.tup k1)⟩, p2.now (Next.refl _ _ _) (Nat.le_refl _) S2 (by rw [hK]; exact Wk.tup k1 k2)⟩
      | l vs =>
        refine ⟨_, pi_list h1, go fun x H1 ⟨F2, ι2, S2, r2, p2⟩ => ?_⟩
        cases r2 with
        | l k1 k2 => exact ⟨_, rfl, ⟨_, .inl (S2.sub.rd (.inl k1))⟩, p2.now (Next.refl _ _ _) (Nat.le_refl _) S2 (by rw [hK]; exact Wk.list (.inl k1) k2)⟩
      | r _ => exact (bad rfl).elim
      | x _ _ => exact (bad rfl).elim
theorem di_rng1 {a : Ex} (hg : Gl X "range") (hm : X.mg "range" = none) (h1 : DA X T W [e] (evalL Kt (.cons a .nil))) (hs : starEach [e] X.env = [(false, eval e X.env)]) : DI X T W tg (.Call (.Name "range" p) [e] [] pos) (evalI Kt (.rng (.con (.int 0)) a)) :=
  pi_imp (pi_range1 (tg := tg) (p := p) (pos := pos) hg hm h1 hs) fun σ H Q ⟨F, ι, env, st, S, E, q⟩ => by
    rw [evalI, evalX] at q
    simp only [R.bind_ok] at q
    refine ev_go (f := evalL Kt (.cons a .nil)) S E ?_
    have q' : PostG (RI T) T W σ F ι st.length ((evalL Kt (.cons a .nil) env st).bind fun vs st2 => match vs with
      | [.p (.int j)] => if -(2 ^ 62) ≤ (0 : Int) ∧ (0 : Int) < 2 ^ 62 ∧ -(2 ^ 62) ≤ j ∧ j < 2 ^ 62 then .ok (rangeV 0 j) st2 else .no
      | _ => .no) Q := by
      rw [evalL]
      cases z : evalX Kt a env st with
      | no => rw [z] at q; exact q
      | er c fs s => rw [z] at q; exact q
      | ok v s =>
        rw [z] at q
        simp only [R.bind_ok, evalL] at q ⊢
        cases v with
        | p d => cases d with
          | int j => exact q
          | _ => exact q.elim
        | _ => exact q.elim
    refine (PostG.bind (RA := RL T) q').imp fun xs H1 ⟨F1, ι1, vs, st1, M, p1⟩ => ?_
    split at p1
    · split at p1
      · rename_i j hj
        obtain ⟨y, rfl, ry⟩ := M.rel.one
        cases ry with
        | p ry =>
          cases ry
          have w := p1.now (Next.refl _ _ _) (Nat.le_refl _) M.sim (Wk.range (T := T) (F := F1) (ι := ι1) (n := st1.length) (lo := 0) (hi := j))
          rw [Int.sub_zero] at w
          exact ⟨j, rfl, hj.2.2.1, hj.2.2.2, w⟩
      · exact p1.elim
    · exact p1.elim
theorem di_rng2 {a b : Ex} (hg : Gl X "range") (hm : X.mg "range" = none) (h1 : DA X T W [e1, e2] (evalL Kt (.cons a (.cons b .nil)))) (hs : starEach [e1, e2] X.env = [(false, eval e1 X.env), (false, eval e2 X.env)]) (hs2 : starEach [e2] X.env = [(false, eval e2 X.env)]) : DI X T W tg (.Call (.Name "range" p) [e1, e2] [] pos) (evalI Kt (.rng a b)) :=
  pi_imp (pi_range2 (tg := tg) (p := p) (pos := pos) hg hm h1 hs hs2) fun σ H Q ⟨F, ι, env, st, S, E, q⟩ => by
    rw [evalI] at q
    refine ev_go (f := evalL Kt (.cons a (.cons b .nil))) S E ?_
    have q' : PostG (RI T) T W σ F ι st.length ((evalL Kt (.cons a (.cons b .nil)) env st).bind fun vs st2 => match vs with
      | [.p (.int i), .p (.int j)] => if -(2 ^ 62) ≤ i ∧ i < 2 ^ 62 ∧ -(2 ^ 62) ≤ j ∧ j < 2 ^ 62 then .ok (rangeV i j) st2 else .no
      | _ => .no) Q := by
      rw [evalL]
      cases z : evalX Kt a env st with
      | no => rw [z] at q; exact q
      | er c fs s => rw [z] at q; exact q
      | ok v s =>
        rw [z] at q
        simp only [R.bind_ok, evalL] at q ⊢
        cases z2 : evalX Kt b env s with
        | no => rw [z2] at q; exact q
        | er c fs s => rw [z2] at q; exact q
        | ok w s2 =>
          rw [z2] at q
          simp only [R.bind_ok] at q ⊢
          cases v with
          | p d => cases d with
            | int i =>
              cases w with
              | p d => cases d with
                | int j => exact q
                | _ => exact q.elim
              | _ => exact q.elim
            | _ => exact q.elim
          | _ => exact q.elim
    refine (PostG.bind (RA := RL T) q').imp fun xs H1 ⟨F1, ι1, vs, st1, M, p1⟩ => ?_
    split at p1
    · split at p1
      · rename_i i j hj
        obtain ⟨y, y2, rfl, ry, ry2⟩ := M.rel.two
        cases ry with
        | p ry =>
          cases ry2 with
          | p ry2 =>
            cases ry
            cases ry2
            exact ⟨i, j, rfl, hj, p1.now (Next.refl _ _ _) (Nat.le_refl _) M.sim Wk.range⟩
      · exact p1.elim
    · exact p1.elim
end
end Vm
end

section
/-! V18: targets. -/
namespace Vm
open PySem L2 PySem.Spec PyProof.Rows

structure EnvW (T : Tb) (F : Hp) (ι : Nat → Addr) (n : Nat) (σ : L2.St) (env : Env) (rem : List Nat) : Prop where
  len : env.length ≤ σ.length
  at_ : ∀ (i : Nat) (v : Val), env[i]? = some (some v) → i ∈ rem ∨ ∃ x : V, σ[i]? = some (some x) ∧ VRel T F ι n v x
section
variable {T T' : Tb} {F F' : Hp} {ι ι' : Nat → Addr} {n n' : Nat} {σ : L2.St} {env : Env} {rem : List Nat} {i : Nat} {v : Val} {x : V}
theorem EnvR.w (E : EnvR T F ι n σ env) : EnvW T F ι n σ env rem := ⟨E.len, fun i v e => .inr (E.at_ i v e)⟩
theorem EnvW.r (E : EnvW T F ι n σ env []) : EnvR T F ι n σ env := ⟨E.len, fun i v e => (E.at_ i v e).resolve_left (by simp)⟩
theorem EnvR.to (E : EnvR T F ι n σ env) (h : SameT T T') : EnvR T' F ι n σ env := ⟨E.len, fun i v e => let ⟨x, h1, h2⟩ := E.at_ i v e; ⟨x, h1, h2.to h⟩⟩
theorem EnvW.step (E : EnvW T F ι n σ env (i :: rem)) (r : VRel T F ι n v x) : EnvW T F ι n (σ.set i (some x)) (env.set i (some v)) rem := by
  refine ⟨by rw [List.length_set, List.length_set]; exact E.len, fun j w e => ?_⟩
  by_cases h : i = j
  · subst h
    have hi : i < env.length := by
      rcases Nat.lt_or_ge i env.length with h | h
      · exact h
      · rw [List.getElem?_eq_none (by simpa using h)] at e; cases e
    rw [List.getElem?_set_self hi] at e
    cases e
    exact .inr ⟨x, by rw [List.getElem?_set_self (Nat.lt_of_lt_of_le hi E.len)], r⟩
  · rw [List.getElem?_set_ne h] at e
    rw [List.getElem?_set_ne h]
    rcases E.at_ j w e with k | k
    · rcases List.mem_cons.mp k with k | k
      · exact absurd k.symm h
      · exact .inl k
    · exact .inr k
theorem wipe_none : ∀ {vs : List Nat} {σ : L2.St} {i : Nat}, i ∉ vs → (wipe σ vs)[i]? = σ[i]?
  | [], _, _, _ => rfl
  | v :: vs, σ, i, h => by
    unfold wipe
    rw [List.getElem?_set_ne (fun e => h (by rw [e]; simp))]
    exact wipe_none (fun m => h (List.mem_cons_of_mem _ m))
theorem wipe_at : ∀ {vs : List Nat} {σ : L2.St} {i : Nat}, i ∈ vs → i < σ.length → (wipe σ vs)[i]? = some none
  | v :: vs, σ, i, h, hl => by
    unfold wipe
    by_cases e : v = i
    · subst e
      rw [List.getElem?_set_self (by rw [wipe_length]; exact hl)]
    · rw [List.getElem?_set_ne e]
      exact wipe_at ((List.mem_cons.mp h).resolve_left fun z => e z.symm) hl
theorem wipe_set {vs : List Nat} {i : Nat} {o : Option V} (h : i ∈ vs) (σ : L2.St) : wipe (σ.set i o) vs = wipe σ vs := by
  apply List.ext_getElem?
  intro j
  by_cases m : j ∈ vs
  · by_cases hl : j < σ.length
    · rw [wipe_at m hl, wipe_at m (by simpa using hl)]
    · rw [List.getElem?_eq_none (by rw [wipe_length]; simpa using hl), List.getElem?_eq_none (by rw [wipe_length]; simpa using hl)]
  · rw [wipe_none m, wipe_none m, List.getElem?_set_ne]
    intro e
    subst e
    exact m h
theorem EnvR.wipe {vs is : List Nat} (E : EnvR T F ι n σ env) (h : ∀ i ∈ vs, i ∈ is) : EnvW T F ι n (L2.wipe σ vs) env is := ⟨by rw [wipe_length]; exact E.len, fun i v e => by
  by_cases m : i ∈ vs
  · exact .inl (h i m)
  · obtain ⟨x, h1, h2⟩ := E.at_ i v e
    exact .inr ⟨x, by rw [wipe_none m]; exact h1, h2⟩⟩
end
/-- the names take the values -/
def setsV : List Nat → List V → L2.St → L2.St
  | i :: is, x :: xs, σ => setsV is xs (σ.set i (some x))
  | _, _, σ => σ
def gNs : List Nat → TGs
  | [] => gNil
  | i :: is => gCons (gName i) (gNs is)
theorem gNs_of : ∀ {is : List Nat} {xs : List V} {σ : L2.St} {H : Hp} {Q : L2.St → Hp → Prop}, xs.length = is.length → Q (setsV is xs σ) H → gNs is xs σ H Q
  | [], [], _, _, _, _, q => ⟨rfl, q⟩
  | i :: is, x :: xs, σ, H, Q, h, q => ⟨x, xs, rfl, gNs_of (is := is) (xs := xs) (by simpa using h) q⟩
  | [], _ :: _, _, _, _, h, _ => by simp at h
  | _ :: _, [], _, _, _, h, _ => by simp at h
/-- a target of names is, by what is known -/
def tG (T : Tb) (is : List Nat) : TG := fun x σ H K => ∃ F ι st v env env1, Sim T F ι st H ∧ VRel T F ι st.length v x ∧ EnvW T F ι st.length σ env is ∧ bindV st is v env = some env1 ∧
  ∀ σ2, EnvR T F ι st.length σ2 env1 → (∀ vs, (∀ i ∈ is, i ∈ vs) → wipe σ2 vs = wipe σ vs) → K σ2 H
abbrev DG (X : Cx) (T : Tb) (tg : Expr) (is : List Nat) : Prop := PG X tg (tG T is)
theorem pg_imp {X : Cx} {e : Expr} {t t' : TG} (h : PG X e t) (i : ∀ x σ H Q, t' x σ H Q → t x σ H Q) : PG X e t' := ⟨fun pins s σ H v u Q I r q => h.run pins s σ H v u Q I r (i _ _ _ _ q)⟩
theorem sets_env {T : Tb} {F : Hp} {ι : Nat → Addr} {n : Nat} : ∀ {is : List Nat} {vs : List Val} {xs : List V} {σ : L2.St} {env : Env}, EnvW T F ι n σ env is → VRelL T F ι n vs xs → vs.length = is.length → EnvR T F ι n (setsV is xs σ) ((is.zip vs).foldl (fun e q => e.set q.1 (some q.2)) env) ∧ ∀ ws, (∀ i ∈ is, i ∈ ws) → wipe (setsV is xs σ) ws = wipe σ ws
  | [], [], _, σ, env, E, .nil, _ => ⟨E.r, fun _ _ => rfl⟩
  | i :: is, v :: vs, _, σ, env, E, .cons (x := x) (xs := xs) h1 h2, hl => by
    obtain ⟨k1, k2⟩ := sets_env (is := is) (E.step h1) h2 (by simpa using hl)
    exact ⟨k1, fun ws hw => (k2 ws fun j hj => hw j (List.mem_cons_of_mem _ hj)).trans (wipe_set (hw i (by simp)) σ)⟩
  | [], _ :: _, _, _, _, _, _, hl => by simp at hl
  | _ :: _, [], _, _, _, _, _, hl => by simp at hl
section
variable {X : Cx} {T : Tb} {tg : Expr} {es : List Expr} {pos : Pos}
theorem dg_name {i : Nat} (h : PG X tg (gName i)) : DG X T tg [i] := pg_imp h fun x σ H Q ⟨F, ι, st, v, env, env1, S, r, E, e, k⟩ => by
  have e' : env1 = env.set i (some v) := by unfold bindV at e; exact (Option.some.inj e).symm
  subst e'
  exact k _ (E.step r).r fun vs hv => wipe_set (hv i (by simp)) σ
theorem dg_tup {is : List Nat} {k : Nat} (hK : X.K = T.K) (hc : X.calm = true) (h : PGs X es (gNs is)) (hl : is.length ≠ 1) (hn : (assignEach es X.env).length = is.length) (hst : (assignEach es X.env).findIdx? (·.1) = none) : DG X T (.Tuple es k pos) is :=
  pg_imp (pg_tup hc h hn hst) fun x σ H Q ⟨F, ι, st, v, env, env1, S, r, E, e, kk⟩ => by
    have key : ∃ p xs vs, x = .ref p ∧ H p = some (.tup xs) ∧ VRelL T F ι st.length vs xs ∧ vs.length = is.length ∧ env1 = (is.zip vs).foldl (fun e q => e.set q.1 (some q.2)) env := by
      unfold bindV at e
      split at e
      · exact absurd rfl hl
      · split at e
        · rename_i ds q
          split at e
          · rename_i hz
            obtain ⟨p, xs, rfl, h1, _, h2⟩ := (see_seen S r q).tup S.sub
            exact ⟨p, xs, ds.map .p, rfl, h1, .ofDat h2, by simpa using hz, (Option.some.inj e).symm⟩
          · cases e
        · rename_i vs q
          split at e
          · rename_i hz
            cases see_t q
            cases r with
            | t h1 h2 => exact ⟨_, _, vs, rfl, S.sub.tup h1, h2, hz, (Option.some.inj e).symm⟩
          · cases e
        · cases e
    obtain ⟨p, xs, vs, rfl, h1, h2, h3, rfl⟩ := key
    obtain ⟨k1, k2⟩ := sets_env E h2 h3
    exact ⟨p, xs, rfl, SqT.of h1, by rw [← h2.length]; exact h3, gNs_of (by rw [← h2.length]; exact h3) (kk _ k1 k2)⟩
end
end Vm
end

section
/-! V19: list comprehensions. -/
namespace Vm
open PySem L2 PySem.Spec PyProof.Rows

section
variable {T : Tb} {F H : Hp} {ι : Nat → Addr} {st : Store} {D : Addr} {o o' : HO}
theorem Sim.melt (S : Sim (T.wG (upd T.G D o)) F ι st H) (hD : T.G D = none) : Sim T F ι st H ∧ H D = some o ∧ F D = none ∧ ∀ k, k < st.length → ι k ≠ D := by
  have g : (T.wG (upd T.G D o)).G D = some o := upd_same
  refine ⟨⟨S.sub, fun k c e => (S.cel k c e).to (SameT.wG T _).symm, S.inj, fun a u e => ?_, fun a u e => ?_⟩, S.gd D o g, (S.gf D o g).1, (S.gf D o g).2⟩
  · have ne : a ≠ D := fun z => by rw [z, hD] at e; cases e
    exact S.gd a u (by show upd T.G D o a = some u; rw [upd_ne ne]; exact e)
  · have ne : a ≠ D := fun z => by rw [z, hD] at e; cases e
    exact S.gf a u (by show upd T.G D o a = some u; rw [upd_ne ne]; exact e)
theorem Sim.idx (S : Sim T F ι st H) {k : Nat} {c : Cell} (e : st[k]? = some c) : k < st.length := by
  rcases Nat.lt_or_ge k st.length with h | h
  · exact h
  · rw [List.getElem?_eq_none h] at e; cases e
theorem Sim.reguard (S : Sim (T.wG (upd T.G D o)) F ι st H) : Sim (T.wG (upd T.G D o')) F ι st (upd H D o') := by
  have g : (T.wG (upd T.G D o)).G D = some o := upd_same
  obtain ⟨f0, ne⟩ := S.gf D o g
  refine ⟨fun a u e => ?_, fun k c e => ?_, S.inj, fun a u e => ?_, fun a u e => ?_⟩
  · have : a ≠ D := ne_of_none e f0
    rcases S.sub a u e with h | ⟨q, ob, h⟩
    · exact .inl (by rw [upd_ne this]; exact h)
    · exact .inr ⟨q, ob, by rw [upd_ne this]; exact h⟩
  · exact ((S.cel k c e).to ((SameT.wG T _).symm.trans (SameT.wG T (upd T.G D o')))).el (Next.refl _ _ _) (Nat.le_refl _) (fun u h => by rw [upd_ne (ne k (S.idx e))]; exact h) fun h => h
  · by_cases h : a = D
    · subst h
      have e : upd T.G a o' a = some u := e
      rw [upd_same] at e ⊢
      exact e
    · have e : upd T.G D o' a = some u := e
      rw [upd_ne h] at e ⊢
      exact S.gd a u (by show upd T.G D o a = some u; rw [upd_ne h]; exact e)
  · by_cases h : a = D
    · subst h
      exact ⟨f0, ne⟩
    · have e : upd T.G D o' a = some u := e
      rw [upd_ne h] at e
      exact S.gf a u (by show upd T.G D o a = some u; rw [upd_ne h]; exact e)
/-- it becomes frozen -/
theorem Sim.adoptF (S : Sim T F ι st H) (hD : T.G D = none) (h : H D = some o) (f0 : F D = none) (ne : ∀ k, k < st.length → ι k ≠ D) : Sim T (upd F D o) ι st H ∧ Next F ι st.length (upd F D o) ι := by
  have N : Next F ι st.length (upd F D o) ι := ⟨fun a u e => by rw [upd_ne (ne_of_none e f0)]; exact e, fun _ _ => rfl⟩
  refine ⟨⟨fun a u e => ?_, fun k c e => ?_, S.inj, S.gd, fun a u e => ?_⟩, N⟩
  · by_cases z : a = D
    · subst z
      rw [upd_same] at e
      cases e
      exact .inl h
    · rw [upd_ne z] at e
      exact S.sub a u e
  · exact (S.cel k c e).el N (Nat.le_refl _) (fun u h => h) fun z => by rw [upd_ne (ne k (S.idx e))]; exact z
  · have z : a ≠ D := fun z => by rw [z, hD] at e; cases e
    exact ⟨by rw [upd_ne z]; exact (S.gf a u e).1, (S.gf a u e).2⟩
/-- it becomes a cell -/
theorem Sim.adoptC {c : Cell} (S : Sim T F ι st H) (hD : T.G D = none) (h : H D = some o) (ne : ∀ k, k < st.length → ι k ≠ D) (hc : CellR T F (fun k => if k = st.length then D else ι k) (st.length + 1) H D c) :
    Sim T F (fun k => if k = st.length then D else ι k) (st ++ [c]) H ∧ Next F ι st.length F (fun k => if k = st.length then D else ι k) := by
  have N : Next F ι st.length F (fun k => if k = st.length then D else ι k) := ⟨fun _ _ h => h, fun k hk => if_neg (Nat.ne_of_lt hk)⟩
  refine ⟨⟨S.sub, fun k c' e => ?_, fun j k hj hk e => ?_, S.gd, fun a u e => ⟨(S.gf a u e).1, fun k hk => ?_⟩⟩, N⟩
  · rw [List.length_append, List.length_singleton]
    by_cases hk : k = st.length
    · subst hk
      rw [List.getElem?_append_right (Nat.le_refl _)] at e
      simp at e
      subst e
      simpa using hc
    · rw [if_neg hk]
      have lt : k < st.length := by
        have : k < (st ++ [c]).length := by
          rcases Nat.lt_or_ge k (st ++ [c]).length with h | h
          · exact h
          · rw [List.getElem?_eq_none h] at e; cases e
        rw [List.length_append, List.length_singleton] at this
        omega
      rw [List.getElem?_append_left lt] at e
      exact (S.cel k c' e).el N (Nat.le_succ _) (fun o h => h) (fun h => h)
  · rw [List.length_append, List.length_singleton] at hj hk
    have e : (if j = st.length then D else ι j) = (if k = st.length then D else ι k) := e
    by_cases h1 : j = st.length
    · by_cases h2 : k = st.length
      · omega
      · rw [if_pos h1, if_neg h2] at e
        exact absurd e.symm (ne k (by omega))
    · by_cases h2 : k = st.length
      · rw [if_neg h1, if_pos h2] at e
        exact absurd e (ne j (by omega))
      · rw [if_neg h1, if_neg h2] at e
        exact S.inj j k (by omega) (by omega) e
  · rw [List.length_append, List.length_singleton] at hk
    show (if k = st.length then D else ι k) ≠ a
    by_cases h1 : k = st.length
    · rw [if_pos h1]
      exact fun z => by rw [← z, hD] at e; cases e
    · rw [if_neg h1]
      exact (S.gf a u e).2 k (by omega)
/-- the list at D, that was left alone, is what alloc gives -/
theorem alloc_at {W : L2.WX} {σ : L2.St} {f : Nat} {vs : List Val} {xs : List V} {Q : VK} (S : Sim (T.wG (upd T.G D (.lst xs))) F ι st H) (hD : T.G D = none) (r : VRelL T F ι st.length vs xs) (p : PostG (RV T) T W σ F ι st.length (alloc f vs st) Q) : Q (.ref D) H := by
  obtain ⟨S1, h, f0, ne⟩ := S.melt hD
  unfold alloc at p
  split at p
  · obtain ⟨S2, N⟩ := S1.adoptF hD h f0 ne
    exact p _ ι H _ N (Nat.le_refl _) S2 (mkL_rel upd_same (r.up N (Nat.le_refl _)))
  · split at p
    · rename_i ds e
      obtain ⟨S2, N⟩ := S1.adoptC (c := .pl ds) hD h ne ⟨f0, xs, h, r.pure e⟩
      refine p F _ _ (.ref D) N (by simp) S2 ?_
      have := VRel.r (T := T) (F := F) (ι := fun k => if k = st.length then D else ι k) (n := (st ++ [Cell.pl ds]).length) (k := st.length) (by simp)
      simpa using this
    · exact p.elim
  · obtain ⟨S2, N⟩ := S1.adoptC (c := .ml vs) hD h ne ⟨f0, xs, h, r.up ⟨fun _ _ h => h, fun k hk => if_neg (Nat.ne_of_lt hk)⟩ (Nat.le_succ _)⟩
    refine p F _ _ (.ref D) N (by simp) S2 ?_
    have := VRel.r (T := T) (F := F) (ι := fun k => if k = st.length then D else ι k) (n := (st ++ [Cell.ml vs]).length) (k := st.length) (by simp)
    simpa using this
end
theorem lcGo_len {turn : Val → Store → R (Option Val)} : ∀ {vs acc : List Val} {st : Store} {ws : List Val} {st' : Store}, lcGo turn vs acc st = .ok ws st' → acc.length ≤ ws.length
  | [], acc, st, ws, st', e => by cases e; exact Nat.le_refl _
  | v :: vs, acc, st, ws, st', e => by
    unfold lcGo at e
    split at e
    · have := lcGo_len e
      simp at this
      omega
    · exact lcGo_len e
    · cases e
    · cases e
theorem lcGo_er {turn : Val → Store → R (Option Val)} : ∀ {vs acc : List Val} {st : Store} {c : Nat} {fs : List (Str × PyData)} {st' : Store}, lcGo turn vs acc st ≠ .er c fs st'
  | [], acc, st, c, fs, st', e => by cases e
  | v :: vs, acc, st, c, fs, st', e => by
    unfold lcGo at e
    split at e
    · exact lcGo_er e
    · exact lcGo_er e
    · cases e
    · cases e
/-- tests of a comprehension -/
abbrev DTs (X : Cx) (T : Tb) (W : L2.WX) (ifs : List Expr) (f : Env → Store → R Bool) : Prop := PTs X ifs (tEvG RE T W f)
theorem pts_imp {X : Cx} {e : List Expr} {t t' : TT} (h : PTs X e t) (i : ∀ σ H Q, t' σ H Q → t σ H Q) : PTs X e t' := ⟨fun pins s σ H Q I q => h.run pins s σ H Q I (i _ _ _ q)⟩
theorem dts_nil {X : Cx} {T : Tb} {W : L2.WX} {Kt : Kit} : DTs X T W [] (evalT Kt .nil) := pts_imp pts_nil fun σ H Q ⟨F, ι, env, st, S, E, p⟩ => by
  rw [evalT] at p
  exact p.now (Next.refl _ _ _) (Nat.le_refl _) S rfl
theorem dts_one {X : Cx} {T : Tb} {W : L2.WX} {Kt : Kit} {e : Expr} {a b : Ex} (h : DT X T W e (evalT Kt (.cons a b))) : DTs X T W [e] (evalT Kt (.cons a b)) := pts_one h
abbrev W0 : L2.WX := fun _ _ _ _ => False
section
variable {X : Cx} {T : Tb} {W : L2.WX} {Kt : Kit} {elt tg iter : Expr} {ifs : List Expr} {scope : Scope} {own : List (Str × Nat)} {pos : Pos} {f : Nat} {is : List Nat} {it c e : Ex}
theorem lc_ev {σ : L2.St} {H : Hp} {Q : VK} (hown : ∀ i ∈ own.map (·.2), i ∈ is) (hown2 : ∀ i ∈ is, i ∈ own.map (·.2)) (p : tEvG (RV T) T W (evalX Kt (.lc f is it c e)) σ H Q) :
    tLc (tEvG (RI T) T W (evalI Kt it)) (fun x σ H K => ∃ G, tG (T.wG G) is x σ H K) (fun σ H K => ∃ G, tEvG RE (T.wG G) W0 (evalT Kt c) σ H K) (fun σ H K => ∃ G, tEvG (RV (T.wG G)) (T.wG G) W0 (evalX Kt e) σ H K) (own.map (·.2)) σ H Q := by
  obtain ⟨F, ι, env, st, S, E, p⟩ := p
  rw [evalX] at p
  refine ev_go (f := evalI Kt it) S E ((PostG.bind (RA := RI T) p).imp fun J H1 ⟨F1, ι1, items, st1, M, p1⟩ D hD => ?_)
  have E1 := E.up M.nx M.le
  have wk := M.rel
  have gD : T.G D = none := by
    cases z : T.G D with
    | none => rfl
    | some o => have := M.sim.gd D o z; rw [hD] at this; cases this
  generalize hturn : (fun (v : Val) (s : Store) => (match bindV s is v env with
      | some env1 => (evalT Kt c env1 s).bind fun b s1 => match b with
        | true => (evalX Kt e env1 s1).bind fun x s2 => .ok (some x) s2
        | false => .ok none s1
      | none => .no : R (Option Val))) = turn at p1
  let Pv : Nat → Hp → Prop := fun i H => ∃ F ι st acc xs, Next F1 ι1 st1.length F ι ∧ st1.length ≤ st.length ∧ Sim (T.wG (upd T.G D (.lst xs))) F ι st H ∧ VRelL T F ι st.length acc xs ∧
    PostG (RV T) T W σ F ι st.length ((lcGo turn (items.drop i) acc st).bind fun vs st2 => if vs.length ≤ SZ then alloc f vs st2 else .no) Q
  refine ⟨fun i m H => m = items.length - i ∧ i ≤ items.length ∧ Pv i H, ⟨items.length, by simp, Nat.zero_le _, F1, ι1, st1, [], [], Next.refl _ _ _, Nat.le_refl _, M.sim.guard hD, .nil, p1⟩, ?_⟩
  rintro i m H2 ⟨rfl, hi, F2, ι2, st2, acc, xs, N2, l2, S2, r2, p2⟩
  by_cases hlt : i < items.length
  · have hv : items[i]? = some items[i] := by simp [hlt]
    have hdrop : items.drop i = items[i] :: items.drop (i + 1) := List.drop_eq_getElem_cons hlt
    rw [hdrop] at p2
    generalize items[i] = v at hv p2
    refine .inr ⟨wk.goes _ _ _ _ _ i v (SameT.wG T _) N2 l2 S2 hv, Pv (i + 1), fun H' p' => ⟨items.length - (i + 1), by omega, rfl, hlt, p'⟩, fun x H' y => ?_⟩
    obtain ⟨F3, fx, rx⟩ := wk.yields _ _ _ _ _ i v x H' (SameT.wG T _) N2 l2 S2 hv y
    have S3 := S2.fx fx
    have N3 : Next F2 ι2 st2.length F3 ι2 := fx.next
    have r3 := r2.up N3 (Nat.le_refl _)
    have p3 := p2.up N3 (Nat.le_refl _) (fun _ _ _ _ => trivial)
    unfold lcGo at p3
    have ht : turn v st2 = (match bindV st2 is v env with
      | some env1 => (evalT Kt c env1 st2).bind fun b s1 => match b with
        | true => (evalX Kt e env1 s1).bind fun x s2 => .ok (some x) s2
        | false => .ok none s1
      | none => .no) := by rw [← hturn]
    rw [ht] at p3
    cases hb : bindV st2 is v env with
    | none => rw [hb] at p3; exact p3.elim
    | some env1 =>
      rw [hb] at p3
      simp only at p3
      have NX : Next F1 ι1 st1.length F3 ι2 := N2.trans N3 l2
      have EX := (E1.up NX l2).to (SameT.wG T (upd T.G D (.lst xs)))
      refine ⟨upd T.G D (.lst xs), F3, ι2, st2, v, env, env1, S3, rx.to (SameT.wG T _), EX.wipe hown, hb, fun σ2 e2 hw => ⟨(hw _ hown2).trans ?_, ?_⟩⟩
      · have : ∀ vs : List Nat, wipe (wipe σ vs) vs = wipe σ vs := fun vs => by
          apply List.ext_getElem?
          intro j
          by_cases m : j ∈ vs
          · by_cases hl : j < σ.length
            · rw [wipe_at m (by rw [wipe_length]; exact hl), wipe_at m hl]
            · rw [List.getElem?_eq_none (by rw [wipe_length, wipe_length]; simpa using hl), List.getElem?_eq_none (by rw [wipe_length]; simpa using hl)]
          · rw [wipe_none m]
        exact this _
      · refine ⟨upd T.G D (.lst xs), F3, ι2, env1, st2, S3, e2, ?_⟩
        cases ht2 : evalT Kt c env1 st2 with
        | no => rw [ht2] at p3; exact p3.elim
        | er _ _ _ => rw [ht2] at p3; exact p3.elim
        | ok b s1 =>
          rw [ht2] at p3
          simp only [R.bind_ok] at p3
          intro F4 ι4 H4 b' N4 l4 S4 rb
          have rb : b = b' := rb
          subst rb
          cases b with
          | false =>
            simp only [Bool.false_eq_true, if_false]
            exact ⟨F4, ι4, s1, acc, xs, NX.trans N4 l2, Nat.le_trans l2 l4, S4, r3.up N4 l4, p3.up N4 l4 fun _ _ _ _ => trivial⟩
          | true =>
            simp only [if_true]
            refine ⟨upd T.G D (.lst xs), F4, ι4, env1, s1, S4, e2.up N4 l4, ?_⟩
            cases he : evalX Kt e env1 s1 with
            | no => simp only [he] at p3; exact p3.elim
            | er _ _ _ => simp only [he] at p3; exact p3.elim
            | ok z s2 =>
              simp only [he, R.bind_ok] at p3
              intro F5 ι5 H5 y N5 l5 S5 ry
              have hDD : H5 D = some (.lst xs) := S5.gd D _ upd_same
              refine ⟨xs, hDD, ?_, F5, ι5, s2, acc ++ [z], xs ++ [y], (NX.trans N4 l2).trans N5 (Nat.le_trans l2 l4), Nat.le_trans (Nat.le_trans l2 l4) l5, S5.reguard, ?_, ?_⟩
              · cases hg : lcGo turn (items.drop (i + 1)) (acc ++ [z]) s2 with
                | no => rw [hg] at p3; exact p3.elim
                | er _ _ _ => exact absurd hg lcGo_er
                | ok ws s3 =>
                  rw [hg] at p3
                  simp only [R.bind_ok] at p3
                  split at p3
                  · rename_i hz
                    have := lcGo_len hg
                    rw [List.length_append, List.length_singleton] at this
                    rw [← r2.length, ← SZ_eq]
                    omega
                  · exact p3.elim
              · exact ((r3.up N4 l4).up N5 l5).append (.cons (ry.to (SameT.wG T _).symm) .nil)
              · exact p3.up (N4.trans N5 l4) (Nat.le_trans l4 l5) fun _ _ _ _ => trivial
  · have e : i = items.length := by omega
    subst e
    refine .inl ⟨wk.stops _ _ _ _ _ (SameT.wG T _) N2 l2 S2, ?_⟩
    rw [List.drop_length] at p2
    simp only [lcGo, R.bind_ok] at p2
    split at p2
    · exact alloc_at S2 gD r2 p2
    · exact p2.elim
theorem de_lc (hc : X.calm = true) (hN : X.N.Nodup) (hi : DI X T W tg iter (evalI Kt it)) (ok : BlkOk X.N X.env.scope scope own) (hown : ∀ i ∈ own.map (·.2), i ∈ is) (hown2 : ∀ i ∈ is, i ∈ own.map (·.2))
    (hg : ∀ (G : Hp) (s : Shared) (H : Hp) (C : Addr) (cl : List (Str × Addr)) (fp : List Addr), DG (X.blk s H scope (compEnvC scope cl C X.env) fp) (T.wG G) tg is) (ht : ∀ (G : Hp) (s : Shared) (H : Hp) (C : Addr) (cl : List (Str × Addr)) (fp : List Addr), DTs (X.blk s H scope (compEnvC scope cl C X.env) fp) (T.wG G) W0 ifs (evalT Kt c))
    (he : ∀ (G : Hp) (s : Shared) (H : Hp) (C : Addr) (cl : List (Str × Addr)) (fp : List Addr), DE (X.blk s H scope (compEnvC scope cl C X.env) fp) (T.wG G) W0 elt (evalX Kt e)) (hs : ∀ x, foldedSetIterable iter X.env x = pure x) :
    DE X T W (.ListComp elt [⟨tg, iter, ifs, 0⟩] scope pos) (evalX Kt (.lc f is it c e)) :=
  pe_imp (pe_lc (pos := pos) hc hN hi ok (fun s H C cl fp => ⟨fun pins s σ H v u Q I r ⟨G, q⟩ => (hg G _ _ C cl fp).run pins s σ H v u Q I r q⟩) (fun s H C cl fp => ⟨fun pins s σ H Q I ⟨G, q⟩ => (ht G _ _ C cl fp).run pins s σ H Q I q⟩) (fun s H C cl fp => ⟨fun pins s σ H Q I ⟨G, q⟩ => (he G _ _ C cl fp).run pins s σ H Q I q⟩) hs) fun σ H Q q => lc_ev hown hown2 q
end
end Vm
end

section
/-! V20: statements. -/
namespace Vm
open PySem L2 PySem.Spec PyProof.Rows

def PostS (T : Tb) (W : L2.WX) (F : Hp) (ι : Nat → Addr) (n : Nat) (r : Fl) (D : Ends) : Prop :=
  match r with
  | .nx env st' => ∀ F' ι' H' σ, Next F ι n F' ι' → n ≤ st'.length → Sim T F' ι' st' H' → EnvR T F' ι' st'.length σ env → D.nx σ H'
  | .rt v st' => ∀ F' ι' H' x, Next F ι n F' ι' → n ≤ st'.length → Sim T F' ι' st' H' → VRel T F' ι' st'.length v x → D.rt x H'
  | .bk env st' => ∀ F' ι' H' σ, Next F ι n F' ι' → n ≤ st'.length → Sim T F' ι' st' H' → EnvR T F' ι' st'.length σ env → D.bk σ H'
  | .ct env st' => ∀ F' ι' H' σ, Next F ι n F' ι' → n ≤ st'.length → Sim T F' ι' st' H' → EnvR T F' ι' st'.length σ env → D.ct σ H'
  | .er c fs env st' => ∀ F' ι' H' σ cls d, Next F ι n F' ι' → n ≤ st'.length → Sim T F' ι' st' H' → EnvR T F' ι' st'.length σ env → ExcR T F' c fs cls d → W cls d σ H'
  | .no => False
section
variable {T : Tb} {W : L2.WX} {F F' H : Hp} {ι ι' : Nat → Addr} {n n' : Nat} {r : Fl} {D : Ends}
theorem PostS.up (N : Next F ι n F' ι') (h : n ≤ n') (p : PostS T W F ι n r D) : PostS T W F' ι' n' r D := by
  cases r with
  | nx v s => exact fun F2 ι2 H2 x N2 h2 S R => p F2 ι2 H2 x (N.trans N2 h) (Nat.le_trans h h2) S R
  | rt v s => exact fun F2 ι2 H2 x N2 h2 S R => p F2 ι2 H2 x (N.trans N2 h) (Nat.le_trans h h2) S R
  | bk v s => exact fun F2 ι2 H2 x N2 h2 S R => p F2 ι2 H2 x (N.trans N2 h) (Nat.le_trans h h2) S R
  | ct v s => exact fun F2 ι2 H2 x N2 h2 S R => p F2 ι2 H2 x (N.trans N2 h) (Nat.le_trans h h2) S R
  | er c fs v s => exact fun F2 ι2 H2 x cls d N2 h2 S R => p F2 ι2 H2 x cls d (N.trans N2 h) (Nat.le_trans h h2) S R
  | no => exact p
def tS (T : Tb) (W : L2.WX) (f : Env → Store → Fl) : TS := fun D σ H => ∃ F ι env st, Sim T F ι st H ∧ EnvR T F ι st.length σ env ∧ PostS T W F ι st.length (f env st) D
abbrev DS (X : Cx) (T : Tb) (W : L2.WX) (s : Stmt) (f : Env → Store → Fl) : Prop := PS X s (tS T W f)
abbrev DSs (X : Cx) (T : Tb) (W : L2.WX) (s : List Stmt) (f : Env → Store → Fl) : Prop := PSs X s (tS T W f)
theorem fl_bind {α β : Type} {RA : Hp → (Nat → Addr) → Nat → α → β → Prop} {σ : L2.St} {env : Env} {r : R α} {g : α → Store → Fl} (E : EnvR T F ι n σ env) (p : PostS T W F ι n (r.fl env g) D) :
    PostG RA T W σ F ι n r (fun x H1 => ∃ F1 ι1 v st1, Mid RA T F ι n H1 F1 ι1 v x st1 ∧ EnvR T F1 ι1 st1.length σ env ∧ PostS T W F1 ι1 st1.length (g v st1) D) := by
  cases r with
  | ok v s => exact fun F2 ι2 H2 x N2 h2 S R => ⟨F2, ι2, v, s, ⟨N2, h2, S, R⟩, E.up N2 h2, PostS.up N2 h2 p⟩
  | er c fs s => exact fun F2 ι2 H2 cls d N2 h2 S R => p F2 ι2 H2 σ cls d N2 h2 S (E.up N2 h2) R
  | no => exact p
end
section
variable {X : Cx} {T : Tb} {W : L2.WX} {Kt : Kit} {fl : Nat → List Str} {e tg c : Expr} {s : Stmt} {ss a b : List Stmt} {pos p2 : Pos}
theorem ds_eq {f g : Env → Store → Fl} (h : DS X T W s f) (q : ∀ env st, g env st = f env st) : DS X T W s g := ps_imp h fun D σ H ⟨F, ι, env, st, S, E, p⟩ => ⟨F, ι, env, st, S, E, by rw [← q]; exact p⟩
theorem ds_skip : DSs X T W [] (execS Kt fl .skip) := pss_imp pss_nil fun D σ H ⟨F, ι, env, st, S, E, p⟩ => by
  rw [execS] at p
  exact p F ι H σ (Next.refl _ _ _) (Nat.le_refl _) S E
theorem ds_pass : DS X T W (.Pass pos) (execS Kt fl .skip) := ps_imp ps_pass fun D σ H ⟨F, ι, env, st, S, E, p⟩ => by
  rw [execS] at p
  exact p F ι H σ (Next.refl _ _ _) (Nat.le_refl _) S E
theorem ds_brk : DS X T W (.Break pos) (execS Kt fl .brk) := ps_imp ps_break fun D σ H ⟨F, ι, env, st, S, E, p⟩ => by
  rw [execS] at p
  exact p F ι H σ (Next.refl _ _ _) (Nat.le_refl _) S E
theorem ds_cnt : DS X T W (.Continue pos) (execS Kt fl .cnt) := ps_imp ps_continue fun D σ H ⟨F, ι, env, st, S, E, p⟩ => by
  rw [execS] at p
  exact p F ι H σ (Next.refl _ _ _) (Nat.le_refl _) S E
theorem ds_bad : DS X T W s (execS Kt fl .bad) := ⟨fun pins s' σ H D I ⟨F, ι, env, st, S, E, p⟩ => by
  rw [execS] at p
  exact p.elim⟩
theorem ds_one {m : Sm} (h : DS X T W s (execS Kt fl m)) : DSs X T W [s] (execS Kt fl m) := pss_one h
theorem ds_cons {m m' : Sm} (h1 : DS X T W s (execS Kt fl m)) (h2 : DSs X T W ss (execS Kt fl m')) : DSs X T W (s :: ss) (execS Kt fl (.seq m m')) := pss_imp (pss_cons h1 h2) fun D σ H ⟨F, ι, env, st, S, E, p⟩ => by
  rw [execS] at p
  refine ⟨F, ι, env, st, S, E, ?_⟩
  revert p
  cases execS Kt fl m env st with
  | nx e1 s1 => exact fun p F' ι' H' σ' N hn S' E' => ⟨F', ι', e1, s1, S', E', p.up N hn⟩
  | rt v s => exact fun p => p
  | bk v s => exact fun p => p
  | ct v s => exact fun p => p
  | er c fs v s => exact fun p => p
  | no => exact fun p => p
theorem ds_ret {x : Ex} (h : DE X T W e (evalX Kt x)) : DS X T W (.Return (some e) pos) (execS Kt fl (.ret x)) := ps_imp (ps_ret h) fun D σ H ⟨F, ι, env, st, S, E, p⟩ => by
  rw [execS] at p
  refine ev_go S E ((fl_bind (RA := RV T) E p).imp fun y H1 ⟨F1, ι1, v, st1, M, E1, q⟩ => ?_)
  exact q F1 ι1 H1 y (Next.refl _ _ _) (Nat.le_refl _) M.sim M.rel
theorem ds_retN : DS X T W (.Return none pos) (execS Kt fl (.ret (.con .none))) := ps_imp ps_retN fun D σ H ⟨F, ι, env, st, S, E, p⟩ => by
  rw [execS, evalX] at p
  exact p F ι H .non (Next.refl _ _ _) (Nat.le_refl _) S (.p .non)
theorem ds_ex {x : Ex} (h : DE X T W e (evalX Kt x)) (hs : swapsWith e none pos.line X.env = pure false) : DS X T W (.Expr e pos) (execS Kt fl (.ex x)) := ps_imp (ps_expr h hs) fun D σ H ⟨F, ι, env, st, S, E, p⟩ => by
  rw [execS] at p
  refine ev_go (f := evalX Kt x) S E ((fl_bind (RA := RV T) E p).imp fun y H1 ⟨F1, ι1, v, st1, M, E1, q⟩ => ?_)
  exact q F1 ι1 H1 σ (Next.refl _ _ _) (Nat.le_refl _) M.sim E1
theorem ds_if {x : Ex} {m m' : Sm} (hc : DT X T W c (evalT Kt x)) (h1 : DSs X T W a (execS Kt fl m)) (h2 : DSs X T W b (execS Kt fl m')) : DS X T W (.If c a b pos) (execS Kt fl (.ife x m m')) := ps_imp (ps_if hc h1 h2) fun D σ H ⟨F, ι, env, st, S, E, p⟩ => by
  rw [execS] at p
  refine ev_go (f := evalT Kt x) S E ((fl_bind (RA := RE) E p).imp fun k H1 ⟨F1, ι1, v, st1, M, E1, q⟩ => ?_)
  have hk : v = k := M.rel
  subst hk
  cases v with
  | true => exact iteT ⟨F1, ι1, env, st1, M.sim, E1, q⟩
  | false => exact iteF ⟨F1, ι1, env, st1, M.sim, E1, q⟩
theorem ds_asgN {i : Nat} {x : Ex} (h : DE X T W e (evalX Kt x)) (hg : PG X tg (gName i)) (hs : swapsWithSole [tg] e pos.line X.env = pure false) (hw : swappedStores [tg] e X.env = pure none) (h1 : (assignEach [tg] X.env).map (·.2) = [assign tg X.env]) : DS X T W (.Assign [tg] e pos) (execS Kt fl (.asg (.n i) x)) :=
  ps_imp (ps_asg h hg hs hw h1) fun D σ H ⟨F, ι, env, st, S, E, p⟩ => by
    rw [execS] at p
    refine ev_go (f := evalX Kt x) S E ((fl_bind (RA := RV T) E p).imp fun y H1 ⟨F1, ι1, v, st1, M, E1, q⟩ => ?_)
    exact q F1 ι1 H1 _ (Next.refl _ _ _) (Nat.le_refl _) M.sim ((E1.w (rem := [i])).step M.rel).r
theorem ds_asgT {is : List Nat} {x : Ex} (h : DE X T W e (evalX Kt x)) (hg : DG X T tg is) (hs : swapsWithSole [tg] e pos.line X.env = pure false) (hw : swappedStores [tg] e X.env = pure none) (h1 : (assignEach [tg] X.env).map (·.2) = [assign tg X.env]) : DS X T W (.Assign [tg] e pos) (execS Kt fl (.asg (.t is) x)) :=
  ps_imp (ps_asg h hg hs hw h1) fun D σ H ⟨F, ι, env, st, S, E, p⟩ => by
    rw [execS] at p
    refine ev_go (f := evalX Kt x) S E ((fl_bind (RA := RV T) E p).imp fun y H1 ⟨F1, ι1, v, st1, M, E1, q⟩ => ?_)
    cases hb : bindV st1 is v env with
    | none => simp only [hb] at q; exact q.elim
    | some env1 =>
      simp only [hb] at q
      exact ⟨F1, ι1, st1, v, env, env1, M.sim, M.rel, E1.w, hb, fun σ2 e2 _ => q F1 ι1 H1 σ2 (Next.refl _ _ _) (Nat.le_refl _) M.sim e2⟩
end
end Vm
end

section
/-! V21: loops, comprehensions that are named, stores. -/
namespace Vm
open PySem L2 PySem.Spec PyProof.Rows

section
variable {X : Cx} {T : Tb} {W : L2.WX} {Kt : Kit} {fl : Nat → List Str} {e tg c iter : Expr} {s : Stmt} {ss a b body : List Stmt} {pos p2 : Pos}
theorem ds_while {x : Ex} {m : Sm} (hp : PassesOwn (model X.prog X.w) X.A X.env X.xe) (hc : DT X T W c (evalT Kt x)) (hb : DSs X T W body (execS Kt fl m)) : DS X T W (.While c body [] pos) (execS Kt fl (.whl x m)) := ps_imp (ps_while hp hc hb) fun D σ H ⟨F, ι, env, st, S, E, p⟩ => by
  rw [execS] at p
  refine ⟨fun k σ H => ∃ F ι env st, Sim T F ι st H ∧ EnvR T F ι st.length σ env ∧ PostS T W F ι st.length (whGo (evalT Kt x) (execS Kt fl m) k env st) D, ⟨Kt.wh, F, ι, env, st, S, E, p⟩, ?_⟩
  rintro k σ H ⟨F, ι, env, st, S, E, p⟩
  cases k with
  | zero => exact p.elim
  | succ k =>
    rw [whGo] at p
    refine ev_go (f := evalT Kt x) S E ((fl_bind (RA := RE) E p).imp fun v' H1 ⟨F1, ι1, v, st1, M, E1, q⟩ => ?_)
    have hk : v = v' := M.rel
    subst hk
    cases v with
    | false =>
      refine iteF ?_
      exact q F1 ι1 H1 σ (Next.refl _ _ _) (Nat.le_refl _) M.sim E1
    | true =>
      refine iteT ⟨fun σ H => ∃ F ι env st, Sim T F ι st H ∧ EnvR T F ι st.length σ env ∧ PostS T W F ι st.length (whGo (evalT Kt x) (execS Kt fl m) k env st) D, fun σ' H' w => ⟨k, Nat.lt_succ_self _, w⟩, F1, ι1, env, st1, M.sim, E1, ?_⟩
      simp only at q
      revert q
      cases execS Kt fl m env st1 with
      | nx e1 s1 => exact fun q F' ι' H' σ' N hn S' E' => ⟨F', ι', e1, s1, S', E', q.up N hn⟩
      | ct e1 s1 => exact fun q F' ι' H' σ' N hn S' E' => ⟨F', ι', e1, s1, S', E', q.up N hn⟩
      | bk e1 s1 => exact fun q => q
      | rt v s => exact fun q => q
      | er c fs v s => exact fun q => q
      | no => exact fun q => q
theorem ds_for {is : List Nat} {it : Ex} {m : Sm} (hp : PassesOwn (model X.prog X.w) X.A X.env X.xe) (hc : X.calm = true) (hi : DI X T W tg iter (evalI Kt it)) (hg : DG X T tg is) (hb : DSs X T W body (execS Kt fl m))
    (hs : ∀ x, foldedSetIterable iter X.env x = pure x) : DS X T W (.For tg iter body [] pos) (execS Kt fl (.for_ is it m)) := ps_imp (ps_for hp hc hi hg hb hs) fun D σ H ⟨F, ι, env, st, S, E, p⟩ => by
  rw [execS] at p
  refine ev_go (f := evalI Kt it) S E ((fl_bind (RA := RI T) E p).imp fun J H1 ⟨F1, ι1, items, st1, M, E1, q⟩ => ?_)
  have wk := M.rel
  generalize hturn : (fun (v : Val) (e : Env) (s : Store) => (match bindV s is v e with
    | some e1 => execS Kt fl m e1 s
    | none => .no : Fl)) = turn at q
  let Pv : Nat → L2.St → Hp → Prop := fun i σ H => ∃ F ι env st, Next F1 ι1 st1.length F ι ∧ st1.length ≤ st.length ∧ Sim T F ι st H ∧ EnvR T F ι st.length σ env ∧ PostS T W F ι st.length (forGo turn (items.drop i) env st) D
  refine ⟨fun i m σ H => m = items.length - i ∧ i ≤ items.length ∧ Pv i σ H, ⟨items.length, by simp, Nat.zero_le _, F1, ι1, env, st1, Next.refl _ _ _, Nat.le_refl _, M.sim, E1, q⟩, ?_⟩
  rintro i m' σ2 H2 ⟨rfl, hi, F2, ι2, e2, st2, N2, l2, S2, E2, p2⟩
  by_cases hlt : i < items.length
  · have hv : items[i]? = some items[i] := by simp [hlt]
    have hdrop : items.drop i = items[i] :: items.drop (i + 1) := List.drop_eq_getElem_cons hlt
    rw [hdrop] at p2
    generalize items[i] = v at hv p2
    refine .inr ⟨wk.goes _ _ _ _ _ i v (SameT.refl T) N2 l2 S2 hv, Pv (i + 1), fun σ' H' p' => ⟨items.length - (i + 1), by omega, rfl, hlt, p'⟩, fun x H' y => ?_⟩
    obtain ⟨F3, fx, rx⟩ := wk.yields _ _ _ _ _ i v x H' (SameT.refl T) N2 l2 S2 hv y
    have S3 := S2.fx fx
    have N3 : Next F2 ι2 st2.length F3 ι2 := fx.next
    have p3 := p2.up N3 (Nat.le_refl _)
    have NX : Next F1 ι1 st1.length F3 ι2 := N2.trans N3 l2
    rw [forGo] at p3
    have ht : turn v e2 st2 = (match bindV st2 is v e2 with
      | some e1 => execS Kt fl m e1 st2
      | none => .no) := by rw [← hturn]
    rw [ht] at p3
    cases hbv : bindV st2 is v e2 with
    | none => rw [hbv] at p3; exact p3.elim
    | some env1 =>
      rw [hbv] at p3
      simp only at p3
      refine ⟨F3, ι2, st2, v, e2, env1, S3, rx, (E2.up N3 (Nat.le_refl _)).w, hbv, fun σ4 E4 _ => ⟨F3, ι2, env1, st2, S3, E4, ?_⟩⟩
      revert p3
      cases execS Kt fl m env1 st2 with
      | nx e1 s1 => exact fun q F' ι' H' σ' N hn S' E' => ⟨F', ι', e1, s1, NX.trans N l2, Nat.le_trans l2 hn, S', E', q.up N hn⟩
      | ct e1 s1 => exact fun q F' ι' H' σ' N hn S' E' => ⟨F', ι', e1, s1, NX.trans N l2, Nat.le_trans l2 hn, S', E', q.up N hn⟩
      | bk e1 s1 => exact fun q => q
      | rt v s => exact fun q => q
      | er c fs v s => exact fun q => q
      | no => exact fun q => q
  · have e : i = items.length := by omega
    subst e
    rw [List.drop_length, forGo] at p2
    exact .inl ⟨wk.stops _ _ _ _ _ (SameT.refl T) N2 l2 S2, p2 F2 ι2 H2 σ2 (Next.refl _ _ _) (Nat.le_refl _) S2 E2⟩
/-- name = [..] on one line -/
theorem ds_setLc {i f : Nat} {y : Str} {py spos : Pos} {elt : Expr} {ifs : List Expr} {scope : Scope} {own : List (Str × Nat)} {is : List Nat} {it ec x : Ex} (hc : X.calm = true) (hN : X.N.Nodup) (hy : X.N[i]? = some y) (hyl : X.env.scope.names.lookup y = some .local)
    (hsw : swapsWith (.ListComp elt [⟨tg, iter, ifs, 0⟩] scope pos) (some (.Name y py)) spos.line X.env = pure true) (hi : DI X T W tg iter (evalI Kt it)) (ok : BlkOk X.N X.env.scope scope own) (hown : ∀ i ∈ own.map (·.2), i ∈ is) (hown2 : ∀ i ∈ is, i ∈ own.map (·.2))
    (hg : ∀ (G : Hp) (s : Shared) (H : Hp) (C : Addr) (cl : List (Str × Addr)) (fp : List Addr), DG (X.blk s H scope (compEnvC scope cl C X.env) fp) (T.wG G) tg is) (ht : ∀ (G : Hp) (s : Shared) (H : Hp) (C : Addr) (cl : List (Str × Addr)) (fp : List Addr), DTs (X.blk s H scope (compEnvC scope cl C X.env) fp) (T.wG G) W0 ifs (evalT Kt ec))
    (he : ∀ (G : Hp) (s : Shared) (H : Hp) (C : Addr) (cl : List (Str × Addr)) (fp : List Addr), DE (X.blk s H scope (compEnvC scope cl C X.env) fp) (T.wG G) W0 elt (evalX Kt x)) (hs : ∀ x, foldedSetIterable iter X.env x = pure x) :
    DS X T W (.Assign [.Name y py] (.ListComp elt [⟨tg, iter, ifs, 0⟩] scope pos) spos) (execS Kt fl (.asg (.n i) (.lc f is it ec x))) :=
  ps_imp (ps_setLc (pos := pos) (g := fun x σ H K => ∃ G, tG (T.wG G) is x σ H K) (tt := fun σ H K => ∃ G, tEvG RE (T.wG G) W0 (evalT Kt ec) σ H K) (te := fun σ H K => ∃ G, tEvG (RV (T.wG G)) (T.wG G) W0 (evalX Kt x) σ H K) hc hN hy hyl hsw hi ok (fun s H C cl fp => ⟨fun pins s σ H v u Q I r ⟨G, q⟩ => (hg G _ _ C cl fp).run pins s σ H v u Q I r q⟩) (fun s H C cl fp => ⟨fun pins s σ H Q I ⟨G, q⟩ => (ht G _ _ C cl fp).run pins s σ H Q I q⟩) (fun s H C cl fp => ⟨fun pins s σ H Q I ⟨G, q⟩ => (he G _ _ C cl fp).run pins s σ H Q I q⟩) hs) fun D σ H ⟨F, ι, env, st, S, E, p⟩ => by
    rw [execS] at p
    refine lc_ev hown hown2 (ev_go S E ((fl_bind (RA := RV T) E p).imp fun z H1 ⟨F1, ι1, v, st1, M, E1, q⟩ => ?_))
    exact q F1 ι1 H1 _ (Next.refl _ _ _) (Nat.le_refl _) M.sim ((E1.w (rem := [i])).step M.rel).r
end
end Vm
end

section
/-! V22: stores at places and keys. -/
namespace Vm
open PySem L2 PySem.Spec PyProof.Rows

section
variable {X : Cx} {pins : List (Addr × Obj)} {σ : L2.St} {H : Hp} {s : Shared} {a : Addr}
/-- an empty dict is of either kind -/
theorem inv_toT (I : Inv X pins σ H s) (h : H a = some (.dK [])) : Inv X pins σ (upd H a (.dT [])) s := by
  obtain ⟨z, hd, vs, rel, o, es, ep, h1, h2, h3, h4⟩ := dk_of I.hok h
  cases rel
  refine d_write (h' := s.heap) (t' := s.toks) I (by rw [h]; exact True.intro) ⟨rfl, fun _ _ => rfl⟩ ⟨_, h1⟩ ⟨Nat.zero_le _, hd, [], .nil, o, es, ep, h1, h2, h3, ?_, List.nodup_nil⟩
  obtain ⟨_, hp, _⟩ := h4
  cases hes : es.toList with
  | nil => rfl
  | cons x r => rw [hes] at hp; cases hp
theorem inv_toK (I : Inv X pins σ H s) (h : H a = some (.dT [])) : Inv X pins σ (upd H a (.dK [])) s := by
  obtain ⟨z, hd, vs, rel, dd⟩ := dk_rdE I.hok (kvs := []) (.inr ⟨rfl, .inl h⟩)
  have he : ∃ q, s.heap.get? a = some q := let ⟨q, _, _, hq, _⟩ := dd; ⟨q, hq⟩
  exact d_write (h' := s.heap) (t' := s.toks) I (by rw [h]; exact True.intro) ⟨rfl, fun _ _ => rfl⟩ he (dk_new z hd rel dd)
end
def rPutD : TSet := fun o i v H Q => ∃ a, o = .ref a ∧ ((∃ H', DPut H a i v H' ∧ Q H') ∨ (H a = some (.dK []) ∧ ∃ (k : List Key) (b : Addr), i = .ref b ∧ H b = some (.tup (k.map kV)) ∧ Q (upd H a (.dT [(k, v)]))) ∨ (H a = some (.dT []) ∧ ∃ k : Key, i = kV k ∧ Q (upd H a (.dK [(k, v)]))))
theorem upd_updA {H : Hp} {a : Addr} {o o' : HO} : upd (upd H a o) a o' = upd H a o' := by
  funext b
  by_cases e : b = a
  · subst e; rw [upd_same, upd_same]
  · rw [upd_ne e, upd_ne e, upd_ne e]
theorem set_dictA {X : Cx} (hu : X.A.units + 1 < cLine) : PSet X rPutD := by
  intro pins s σ H o i v ov iv u Q I ro ri rv h
  obtain ⟨a, eo, h⟩ := h
  subst eo
  cases (show ov = Value.ref a from ro)
  have sz : (0 : Nat) < sizeLine := by rw [sizeLine_eq]; omega
  rcases h with ⟨H', g, q⟩ | ⟨ha, k, b, rfl, hb, q⟩ | ⟨ha, k, rfl, q⟩
  · exact d_setItem hu I g ri rv fun s' I' => ⟨H', I', q⟩
  · have ne : b ≠ a := fun e => by rw [e, ha] at hb; cases hb
    refine d_setItem (H' := upd H a (.dT [(k, v)])) hu (inv_toT I ha) (.inr ⟨[], k, b, upd_same, rfl, by rw [upd_ne ne]; exact hb, sz, by rw [upd_updA]; rfl⟩) ri rv fun s' I' => ⟨_, I', q⟩
  · refine d_setItem (H' := upd H a (.dK [(k, v)])) hu (inv_toK I ha) (.inl ⟨[], k, upd_same, rfl, sz, by rw [upd_updA]; rfl⟩) ri rv fun s' I' => ⟨_, I', q⟩
theorem DatT.mapP {K : PySem.W.Frag} {F : Hp} {k : List Key} {v : V} {d : PyData} (hd : Dat K F v d) : ∀ {kvs : List (List Key × V)} {es : List (PyData × PyData)}, DatT K F kvs es → DatT K F (kvs.map fun q => if q.1 = k then (q.1, v) else q) (es.map fun q => if keyEq q.1 (.tuple (k.map keyD)) = true then (q.1, d) else q)
  | _, _, .nil => .nil
  | _, _, .cons (k := kk) h1 h2 => by
    rw [List.map_cons, List.map_cons]
    have q : keyEq (.tuple (kk.map keyD)) (.tuple (k.map keyD)) = decide (kk = k) := keyD_eqvAll kk k
    simp only [q]
    by_cases z : kk = k
    · rw [if_pos z, if_pos (decide_eq_true z)]
      exact .cons hd (DatT.mapP hd h2)
    · rw [if_neg z, if_neg (by simpa using z)]
      exact .cons h1 (DatT.mapP hd h2)
theorem DatT.snoc {K : PySem.W.Frag} {F : Hp} {k : List Key} {v : V} {d : PyData} (hd : Dat K F v d) : ∀ {kvs : List (List Key × V)} {es : List (PyData × PyData)}, DatT K F kvs es → DatT K F (kvs ++ [(k, v)]) (es ++ [(.tuple (k.map keyD), d)])
  | _, _, .nil => .cons hd .nil
  | _, _, .cons h1 h2 => .cons h1 (DatT.snoc hd h2)
theorem DatT.anyEq {K : PySem.W.Frag} {F : Hp} (k : List Key) : ∀ {kvs : List (List Key × V)} {es : List (PyData × PyData)}, DatT K F kvs es → (kvs.any fun kv => decide (kv.1 = k)) = es.any fun q => keyEq q.1 (.tuple (k.map keyD))
  | _, _, .nil => rfl
  | _, _, .cons (k := kk) h1 h2 => by
    rw [List.any_cons, List.any_cons, DatT.anyEq k h2]
    have q : keyEq (.tuple (kk.map keyD)) (.tuple (k.map keyD)) = decide (kk = k) := keyD_eqvAll kk k
    simp only [q]
theorem DatT.put {K : PySem.W.Frag} {F : Hp} {k : List Key} {v : V} {d : PyData} (hd : Dat K F v d) {kvs : List (List Key × V)} {es : List (PyData × PyData)} (h : DatT K F kvs es) : DatT K F (L2.putK kvs k v) (Vm.putK es (.tuple (k.map keyD)) d) := by
  unfold L2.putK Vm.putK
  rw [h.anyEq k]
  split
  · exact h.mapP hd
  · exact h.snoc hd
end Vm
end

section
/-! V23: o[i] = v. -/
namespace Vm
open PySem L2 PySem.Spec PyProof.Rows

def rSetA : TSet := fun o i v H Q => rSetL o i v H Q ∨ rPutD o i v H Q
theorem set_any {X : Cx} (hu : X.A.units + 1 < cLine) : PSet X rSetA := fun pins s σ H o i v ov iv u Q I ro ri rv h => by
  rcases h with h | h
  · exact set_list pins s σ H o i v ov iv u Q I ro ri rv h
  · exact set_dictA hu pins s σ H o i v ov iv u Q I ro ri rv h
section
variable {T : Tb} {F H : Hp} {ι : Nat → Addr} {st : Store} {k : Nat} {c c' : Cell} {i : PyData} {v : Val} {x y : V} {Q : Hp → Prop}
theorem put_cell (S : Sim T F ι st H) (hk : st[k]? = some c) (e : putC c i v = some c') (ri : Dat T.K F y i) (rv : VRel T F ι st.length v x) (q : ∀ o, Sim T F ι (st.set k c') (upd H (ι k) o) → Q (upd H (ι k) o)) : rSetA (.ref (ι k)) y x H Q := by
  have lt := S.idx hk
  unfold putC at e
  split at e
  · rename_i ds
    split at e
    · rename_i j d
      cases hj : ixN ds.length j with
      | none => rw [hj] at e; cases e
      | some m =>
        rw [hj] at e
        cases e
        cases ri
        cases rv with
        | p rv =>
          obtain ⟨f0, us, h1, h2⟩ := pl_of S hk
          exact .inl ⟨_, us, j, m, rfl, rfl, h1, by rw [h2.length]; exact hj, q _ (S.put lt f0 ⟨f0, _, upd_same, DatL.set rv m h2⟩)⟩
    · cases e
  · rename_i vs
    split at e
    · rename_i j
      cases hj : ixN vs.length j with
      | none => rw [hj] at e; cases e
      | some m =>
        rw [hj] at e
        cases e
        cases ri
        obtain ⟨f0, us, h1, h2⟩ := ml_of S hk
        exact .inl ⟨_, us, j, m, rfl, rfl, h1, by rw [← h2.length]; exact hj, q _ (S.put lt f0 ⟨f0, _, upd_same, VRelL.set rv m h2⟩)⟩
    · cases e
  · rename_i kvs
    split at e
    · rename_i d
      split at e
      · rename_i hz
        cases e
        obtain ⟨hl, hkey, hkind⟩ := hz
        cases rv with
        | p rv =>
          obtain ⟨f0, hc⟩ := pd_of S hk
          -- the key
          have kk : (∃ g : Key, y = kV g ∧ i = keyD g) ∨ ∃ (g : List Key) (b : Addr), y = .ref b ∧ F b = some (.tup (g.map kV)) ∧ i = .tuple (g.map keyD) := by
            cases i with
            | tuple ds =>
              cases ri with
              | tup h1 h2 =>
                obtain ⟨g, rfl, rfl⟩ := keys_of h2 hkey
                exact .inr ⟨g, _, rfl, h1, rfl⟩
            | int j => exact .inl (key1_of ri rfl)
            | str z => exact .inl (key1_of ri rfl)
            | none => cases hkey
            | bool _ => cases hkey
            | list _ => cases hkey
            | dict _ => cases hkey
          have kd : ∀ {q : PyData × PyData} {r : List (PyData × PyData)}, kvs = q :: r → isKey1 q.1 = isKey1 i := fun {q r} z => by
            rw [z] at hkind
            simpa [kindOK] using hkind
          refine .inr ⟨_, rfl, ?_⟩
          rcases kk with ⟨g, rfl, rfl⟩ | ⟨g, b, rfl, hb, rfl⟩
          · rcases hc with ⟨us, h1, h2⟩ | ⟨us, h1, h2⟩
            · exact .inl ⟨_, .inl ⟨us, g, h1, rfl, by rw [lenK h2, ← SZ_eq]; exact hl, rfl⟩, q _ (S.put lt f0 ⟨f0, .inl ⟨_, upd_same, DatK.put rv h2⟩⟩)⟩
            · cases h2 with
              | nil => exact .inr (.inr ⟨h1, g, rfl, q _ (S.put lt f0 ⟨f0, .inl ⟨_, upd_same, .cons rv .nil⟩⟩)⟩)
              | cons a b =>
                have := kd rfl
                cases g <;> cases this
          · rcases hc with ⟨us, h1, h2⟩ | ⟨us, h1, h2⟩
            · cases h2 with
              | nil => exact .inr (.inl ⟨h1, g, b, rfl, S.sub.tup hb, q _ (S.put lt f0 ⟨f0, .inr ⟨_, upd_same, .cons rv .nil⟩⟩)⟩)
              | cons a b =>
                rename_i kq _ _ _ _
                have := kd rfl
                cases kq <;> cases this
            · exact .inl ⟨_, .inr ⟨us, g, b, h1, rfl, S.sub.tup hb, by rw [lenT h2, ← SZ_eq]; exact hl, rfl⟩, q _ (S.put lt f0 ⟨f0, .inr ⟨_, upd_same, DatT.put rv h2⟩⟩)⟩
      · cases e
    · cases e
  · cases e
  · cases e
end
section
variable {X : Cx} {T : Tb} {W : L2.WX} {Kt : Kit} {fl : Nat → List Str} {e o ie : Expr} {pos tpos : Pos}
theorem ds_sub {x a i : Ex} (hu : X.A.units + 100 < cLine) (h : DE X T W e (evalX Kt x)) (h1 : DE X T W o (evalX Kt a)) (h2 : DE X T W ie (evalX Kt i))
    (ha : ∀ v, assign (.Subscript o ie tpos) X.env v = (do
      let ov ← holding [v] (eval o X.env)
      let iv ← holding [v, ov] (eval ie X.env)
      standAt tpos
      holding [v, ov, iv] (setItem ov iv v)
      release [v, ov, iv] []))
    (hs : swapsWithSole [.Subscript o ie tpos] e pos.line X.env = pure false) (hw : swappedStores [.Subscript o ie tpos] e X.env = pure none) (hm : (assignEach [.Subscript o ie tpos] X.env).map (·.2) = [assign (.Subscript o ie tpos) X.env]) :
    DS X T W (.Assign [.Subscript o ie tpos] e pos) (execS Kt fl (.asg (.sub a i) x)) :=
  ps_imp (ps_asg h (pg_sub h1 h2 (set_any (by omega)) ha) hs hw hm) fun D σ H ⟨F, ι, env, st, S, E, p⟩ => by
    rw [execS] at p
    refine ev_go (f := evalX Kt x) S E ((fl_bind (RA := RV T) E p).imp fun z H1 ⟨F1, ι1, v, st1, M, E1, q⟩ => ?_)
    refine ev_go (f := evalX Kt a) M.sim E1 ((fl_bind (RA := RV T) E1 q).imp fun y H2 ⟨F2, ι2, w, st2, M2, E2, q2⟩ => ?_)
    refine ev_go (f := evalX Kt i) M2.sim E2 ((fl_bind (RA := RV T) E2 q2).imp fun u H3 ⟨F3, ι3, j, st3, M3, E3, q3⟩ => ?_)
    have rv := (M.rel.up M2.nx M2.le).up M3.nx M3.le
    have rw_ := M2.rel.up M3.nx M3.le
    have rj := M3.rel
    split at q3
    · rename_i k d
      split at q3
      · rename_i c hc
        split at q3
        · rename_i c' hp
          cases rw_ with
          | r hk =>
            cases rj with
            | p rj =>
              refine put_cell M3.sim hc hp rj rv fun ob S4 => ?_
              refine q3 F3 ι3 _ σ (Next.refl _ _ _) (by simp) S4 ?_
              rw [List.length_set]
              exact E3
        · exact q3.elim
      · exact q3.elim
    · exact q3.elim
end
end Vm
end

section
/-! V24: a def is left. -/
namespace Vm
open PySem L2 PySem.Spec PyProof.Rows

section
variable {T : Tb} {F H : Hp} {ι : Nat → Addr} {n m : Nat}
mutual
theorem VRel.low : ∀ (v : Val) (x : V), below n v = true → VRel T F ι m v x → VRel T F ι n v x
  | .p d, _, _, q => by cases q with | p q => exact .p q
  | .r k, _, h, q => by cases q with | r q => exact .r (by simpa [below] using h)
  | .t vs, _, h, q => by cases q with | t q1 q2 => exact .t q1 (VRelL.low vs _ (by simpa [below] using h) q2)
  | .l vs, _, h, q => by cases q with | l q1 q2 => exact .l q1 (VRelL.low vs _ (by simpa [below] using h) q2)
  | .x c ds, _, _, q => by cases q with | x q1 q2 q3 => exact .x q1 q2 q3
theorem VRelL.low : ∀ (vs : List Val) (xs : List V), belowL n vs = true → VRelL T F ι m vs xs → VRelL T F ι n vs xs
  | [], _, _, q => by cases q; exact .nil
  | v :: vs, _, h, q => by
    cases q with
    | cons q1 q2 =>
      have h : below n v = true ∧ belowL n vs = true := by simpa [belowL] using h
      exact .cons (VRel.low v _ h.1 q1) (VRelL.low vs _ h.2 q2)
end
theorem MdK.low : ∀ {vs : List (PyData × Val)} {xs : List (Key × V)}, belowL n (vs.map (·.2)) = true → MdK T F ι m vs xs → MdK T F ι n vs xs
  | _, _, _, .nil => .nil
  | _, _, h, .cons h1 h2 => by
    have h := h
    rw [List.map_cons, belowL, Bool.and_eq_true] at h
    exact .cons (VRel.low _ _ h.1 h1) (MdK.low h.2 h2)
theorem MdT.low : ∀ {vs : List (PyData × Val)} {xs : List (List Key × V)}, belowL n (vs.map (·.2)) = true → MdT T F ι m vs xs → MdT T F ι n vs xs
  | _, _, _, .nil => .nil
  | _, _, h, .cons h1 h2 => by
    have h := h
    rw [List.map_cons, belowL, Bool.and_eq_true] at h
    exact .cons (VRel.low _ _ h.1 h1) (MdT.low h.2 h2)
theorem OFld.low : ∀ {vs : List (Str × Val)} {xs : List (Str × V)}, belowL n (vs.map (·.2)) = true → OFld T F ι m vs xs → OFld T F ι n vs xs
  | _, _, _, .nil => .nil
  | _, _, h, .cons h1 h2 => by
    have h := h
    rw [List.map_cons, belowL, Bool.and_eq_true] at h
    exact .cons (VRel.low _ _ h.1 h1) (OFld.low h.2 h2)
theorem CellR.low {a : Addr} {c : Cell} (b : cellBelow n c = true) (h : CellR T F ι m H a c) : CellR T F ι n H a c := by
  cases c with
  | pl ds => exact h
  | ml vs => obtain ⟨h0, xs, h1, h2⟩ := h; exact ⟨h0, xs, h1, VRelL.low _ _ b h2⟩
  | pd es => exact h
  | md vs =>
    obtain ⟨h0, ⟨xs, h1, h2⟩ | ⟨xs, h1, h2⟩⟩ := h
    · exact ⟨h0, .inl ⟨xs, h1, h2.low b⟩⟩
    · exact ⟨h0, .inr ⟨xs, h1, h2.low b⟩⟩
  | ob c fs => obtain ⟨h0, dx, gs, h1, h2⟩ := h; exact ⟨h0, dx, gs, h1, h2.low b⟩
  | fz d => exact h
  | lk c => exact h.elim
theorem Sim.take {st : Store} (S : Sim T F ι st H) (hn : n ≤ st.length) (h : (st.take n).all (cellBelow n) = true) : Sim T F ι (st.take n) H := by
  have hl : (st.take n).length = n := by rw [List.length_take]; omega
  refine ⟨S.sub, fun k c e => ?_, fun j k hj hk e => ?_, S.gd, fun a u e => ⟨(S.gf a u e).1, fun k hk => ?_⟩⟩
  · have hk : k < n := by have := S.idx (st := st) (k := k) (c := c) (by rw [List.getElem?_take] at e; split at e; exact e; cases e); rw [List.getElem?_take] at e; split at e <;> first | assumption | cases e
    rw [hl]
    have e2 : st[k]? = some c := by rw [List.getElem?_take_of_lt hk] at e; exact e
    exact (S.cel k c e2).low (List.all_eq_true.mp h c (List.mem_of_getElem? e))
  · rw [hl] at hj hk
    exact S.inj j k (by omega) (by omega) e
  · rw [hl] at hk
    exact (S.gf a u e).2 k (by omega)
theorem leave_sim {st s2 : Store} {keep : Bool} {v v2 : Val} {x : V} (S : Sim T F ι st H) (hn : n ≤ st.length) (r : VRel T F ι st.length v x) (e : leave keep n v st = .ok v2 s2) :
    ∃ F2, Next F ι n F2 ι ∧ n ≤ s2.length ∧ Sim T F2 ι s2 H ∧ VRel T F2 ι s2.length v2 x := by
  cases keep with
  | true =>
    unfold leave at e
    simp only at e
    cases e
    exact ⟨F, Next.refl _ _ _, hn, S, r⟩
  | false =>
    unfold leave at e
    simp only at e
    split at e
    · rename_i hb
      have hl : (st.take n).length = n := by rw [List.length_take]; omega
      have S1 := S.take hn hb
      have fin : ∀ w, below n w = true → w = v → (.ok w (st.take n) : R Val) = .ok v2 s2 → ∃ F2, Next F ι n F2 ι ∧ n ≤ s2.length ∧ Sim T F2 ι s2 H ∧ VRel T F2 ι s2.length v2 x := fun w hw hv e => by
        cases e
        subst hv
        exact ⟨F, Next.refl _ _ _, by rw [hl]; exact Nat.le_refl _, S1, by rw [hl]; exact VRel.low _ _ hw r⟩
      split at e
      · exact fin _ rfl rfl e
      · rename_i k
        split at e
        · rename_i hk
          exact fin _ (by simpa [below] using hk) rfl e
        · rename_i hk
          split at e
          · rename_i d hs
            have hz : frzV (.r k) st = .ok (.p d) (st.set k (.fz d)) := by
              cases hc : st[k]? with
              | none => simp [see, hc] at hs
              | some c =>
                cases q : seeC c with
                | none => simp [see, hc, q] at hs
                | some d' =>
                  simp [see, hc, q] at hs
                  subst hs
                  unfold frzV
                  simp only [hc, q]
            have p : PostG (RV T) T W0 [] F ι st.length ((frzV (.r k) st).bind fun w s => .ok w s) (fun _ _ => True) := by
              rw [hz]
              exact fun _ _ _ _ _ _ _ _ => trivial
            obtain ⟨F2, v', st', N, hl2, S2, r2, _, hz2, _⟩ := frz_post S r p
            rw [hz] at hz2
            cases hz2
            cases e
            have ht : (st.set k (.fz d)).take n = st.take n := by
              apply List.ext_getElem?
              intro j
              rw [List.getElem?_take, List.getElem?_take]
              split
              · rw [List.getElem?_set_ne (by omega)]
              · rfl
            have S3 := S2.take (n := n) (by rw [hl2]; exact hn) (by rw [ht]; exact hb)
            rw [ht] at S3
            refine ⟨F2, ⟨N.f, fun _ _ => rfl⟩, by rw [hl]; exact Nat.le_refl _, S3, ?_⟩
            cases r2 with
            | p r2 => exact .p r2
          · cases e
      · split at e
        · rename_i hw
          exact fin _ hw rfl e
        · cases e
    · cases e
end
end Vm
end

section
/-! V25: all defs, by the calls that are left. -/
namespace Vm
open PySem L2 PySem.Spec PyProof.Rows

/-- the context of a piece of code -/
structure BX (Pr : Program) (w : World) (K : PySem.W.Frag) (mg : Str → Option Value) (base : Heap) (N : List Str) (n : Nat) (W : L2.WX) (X : Cx) : Prop where
  prog : X.prog = Pr
  w : X.w = w
  K : X.K = K
  mg : X.mg = mg
  base : X.base = base
  N : X.N = N
  calm : X.calm = true
  gd : X.A.guards = some []
  room : Room n X.A
  tk : Takes X W
  fn : ∀ x, X.fn x = true
/-- a def: its place in the text, its object -/
structure FnI where
  x : Str
  qual : Str
  st : Stmt
  f : Addr
  fd : FuncData
  N : List Str
  ps : List Str
section
variable {Pr : Program} {w : World} {K : PySem.W.Frag} {mg : Str → Option Value} {base : Heap} {T : Tb} {P : Pg} {info : Nat → FnI}
def AllF (Pr : Program) (w : World) (K : PySem.W.Frag) (mg : Str → Option Value) (base : Heap) (T : Tb) (P : Pg) (info : Nat → FnI) (n : Nat) : Prop :=
  ∀ i d, P.fns i = some d → FnG Pr w K mg base n (info i).f (info i).fd (info i).ps (spOf T P n i)
theorem startR {G : Hp} {F : Hp} {ι : Nat → Addr} {st : Store} {ws : List Val} {vs : List V} {N : List Str} {np ns : Nat} (r : VRelL T F ι st.length ws vs) (h1 : ws.length = np) (h2 : N.length = ns) (h3 : np ≤ ns) :
    EnvR (T.wG G) F ι st.length (L2.start N vs) (ws.map some ++ List.replicate (ns - np) none) := by
  have hv : vs.length = np := by rw [← r.length]; exact h1
  refine ⟨by unfold L2.start; simp; omega, fun i v e => ?_⟩
  by_cases hi : i < ws.length
  · rw [List.getElem?_append_left (by simpa using hi), List.getElem?_map] at e
    cases q : ws[i]? with
    | none => rw [q] at e; cases e
    | some u =>
      rw [q] at e
      cases e
      obtain ⟨x, hx, hr⟩ := r.get q
      refine ⟨x, ?_, hr.to (SameT.wG T G)⟩
      unfold L2.start
      rw [List.getElem?_append_left (by simp; omega), List.getElem?_map, hx]
      rfl
  · rw [List.getElem?_append_right (by simpa using hi), List.getElem?_replicate] at e
    split at e <;> cases e
/-- what a body gives, as the def's promise says -/
theorem body_post {G : Hp} {F : Hp} {ι : Nat → Addr} {n i : Nat} {st : Store} {ws : List Val} {d : Fn} {Q : VK} {E : XK} (hd : P.fns i = some d) (hl : ws.length = d.np)
    (p : PostG (RV T) (T.wG G) (fun cls dd _ H => E cls dd H) [] F ι st.length (runF P (n + 1) i ws st) Q) :
    PostS (T.wG G) (fun cls dd _ H => E cls dd H) F ι st.length (execS (kitOf P n) P.fields d.body (ws.map some ++ List.replicate (d.ns - d.np) none) st) { nx := fun _ H' => Q .non H', rt := Q } := by
  rw [runF, hd] at p
  simp only at p
  rw [if_pos hl] at p
  have k : kitOf P n = ⟨runF P n, P.con, P.sub, P.wh, P.isx, P.iso⟩ := rfl
  rw [k]
  revert p
  cases execS ⟨runF P n, P.con, P.sub, P.wh, P.isx, P.iso⟩ P.fields d.body (ws.map some ++ List.replicate (d.ns - d.np) none) st with
  | rt v s1 =>
    intro p F' ι' H' x N hn S r
    simp only at p
    cases e : leave d.keep st.length v s1 with
    | no => rw [e] at p; exact p.elim
    | er c fs s =>
      unfold leave at e
      split at e
      · cases e
      · split at e
        · split at e
          · cases e
          · split at e
            · cases e
            · split at e <;> cases e
          · split at e <;> cases e
        · cases e
    | ok v2 s2 =>
      rw [e] at p
      obtain ⟨F2, N2, h2, S2, r2⟩ := leave_sim S hn r e
      exact p F2 ι' H' x (N.trans N2 (Nat.le_refl _)) h2 S2 (r2.to (SameT.wG T G).symm)
  | nx e1 s1 =>
    intro p F' ι' H' σ' N hn S _
    simp only at p
    have r : VRel (T.wG G) F' ι' s1.length (.p .none) .non := .p .non
    cases e : leave d.keep st.length (.p .none) s1 with
    | no => rw [e] at p; exact p.elim
    | er c fs s =>
      unfold leave at e
      split at e
      · cases e
      · split at e <;> cases e
    | ok v2 s2 =>
      rw [e] at p
      obtain ⟨F2, N2, h2, S2, r2⟩ := leave_sim S hn r e
      exact p F2 ι' H' .non (N.trans N2 (Nat.le_refl _)) h2 S2 (r2.to (SameT.wG T G).symm)
  | bk e1 s1 => exact fun p => p.elim
  | ct e1 s1 => exact fun p => p.elim
  | no => exact fun p => p
  | er c fs e1 s1 =>
    intro p F' ι' H' σ' cls dd N hn S _ x
    simp only at p
    unfold leaveE at p
    split at p
    · exact p F' ι' H' cls dd N hn S x
    · split at p
      · rename_i hb
        have hl2 : (s1.take st.length).length = st.length := by rw [List.length_take]; omega
        exact p F' ι' H' cls dd N (by rw [hl2]; exact Nat.le_refl _) (S.take hn hb) x
      · exact p.elim
/-- a def stands: its function object -/
def Stands (K : PySem.W.Frag) (x qual : Str) (st : Stmt) (f : Addr) (fd : FuncData) : Prop := ∃ (oc : Value) (od : Option Addr) (dV kV doc pm : Value) (an : Option Addr) (cdv ct : Value) (osl : Array (Option Value)),
    fd = PySem.W.fnOf x qual (defArgs st) (defBody st) (defScope st) dV kV doc pm an cdv ct ∧ K.lookup f = some ⟨oc, od, .func fd, osl⟩ ∧ PySem.W.codeIn K cdv qual = true
theorem Stands.okG {P : Program} {w : World} {K : PySem.W.Frag} {mg : Str → Option Value} {base : Heap} {x qual : Str} {st : Stmt} {f : Addr} {fd : FuncData} {N ps : List Str} {k : Nat} {sp : Sp} (F : Stands K x qual st f fd) (S : FnScope N ps (defScope st)) (len : ∀ vs H Q E, sp vs H Q E → vs.length = ps.length)
    (hbody : ∀ (cdv : Value) (A : Around) (outer : List PySem.Env) (s : Shared) (H : Hp) (vs : List V) (Q : VK) (E : XK), Room k (A.deeper (envOfC qual (defScope st) s.heap.objs.size f cdv)) → A.guards = some [] → sp vs H Q E →
      ∃ t, PSs (cxOf (L2.CX P w) P w K mg base N qual (defScope st) f cdv A outer s H E) (defBody st) t ∧ t { nx := fun _ H' => Q .non H', rt := Q } (start N vs) H) : FnG P w K mg base (k + 1) f fd ps sp := by
  obtain ⟨oc, od, dV, kV, doc, pm, an, cdv, ct, osl, rfl, lk, hcd⟩ := F
  exact fnG_of lk hcd S len fun A outer s H vs Q E hr hG hsp => hbody cdv A outer s H vs Q E hr hG hsp
theorem allF (hI : ∀ i d, P.fns i = some d → Stands K (info i).x (info i).qual (info i).st (info i).f (info i).fd ∧ FnScope (info i).N (info i).ps (defScope (info i).st) ∧ (info i).ps.length = d.np ∧ (info i).N.length = d.ns ∧ d.np ≤ d.ns)
    (hB : ∀ n, AllF Pr w K mg base T P info n → ∀ i d, P.fns i = some d → ∀ (G : Hp) (W : L2.WX) (X : Cx), BX Pr w K mg base (info i).N n W X → X.env.scope = defScope (info i).st → PassesOwn (model X.prog X.w) X.A X.env X.xe →
      DSs X (T.wG G) W (defBody (info i).st) (execS (kitOf P n) P.fields d.body)) : ∀ n, AllF Pr w K mg base T P info n
  | 0 => fun i d hd => ⟨fun vs H Q E ⟨_, _, _, _, _, _, _, _, _, _, p⟩ => p.elim, fun A outer s H args us vs Q E _ _ _ _ _ ⟨_, _, _, _, _, _, _, _, _, _, p⟩ => p.elim⟩
  | n + 1 => fun i d hd => by
    obtain ⟨hF, hS, hp, hN, hle⟩ := hI i d hd
    have ih := allF hI hB n
    refine Stands.okG hF hS (fun vs H Q E ⟨G, F, ι, st, ws, d', S, r, k1, k2, p⟩ => ?_) fun cdv A outer s H vs Q E hr hG ⟨G, F, ι, st, ws, d', S, r, k1, k2, p⟩ => ?_
    · rw [hd] at k1
      cases k1
      rw [← r.length, k2, hp]
    · rw [hd] at k1
      cases k1
      refine ⟨_, hB n ih i d hd G (fun cls dd _ H => E cls dd H) _ ⟨rfl, rfl, rfl, rfl, rfl, rfl, rfl, hG, hr, takes_of rfl rfl rfl rfl, fun _ => rfl⟩ rfl (passes_of rfl), F, ι, _, st, S, startR r k2 hN hle, body_post hd k2 p⟩
end
end Vm
end

section
/-! V26: enumerate, zip of two lists. -/
namespace Vm
open PySem L2 PySem.Spec PyProof.Rows

section
variable {X : Cx} {T : Tb} {W : L2.WX} {Kt : Kit} {e e1 e2 : Expr} {es elts : List Expr} {pos p p2 tpos : Pos} {kk : Nat}
theorem di_enu {a : Ex} (hK : X.K = T.K) (hg : Gl X "enumerate") (hm : X.mg "enumerate" = none) (h1 : DE X T W e (evalX Kt a)) (hs : starEach [e] X.env = [(false, eval e X.env)]) (hs' : starEach [e] X.env = (false, eval e X.env) :: starEach [] X.env) :
    DI X T W (.Tuple elts kk tpos) (.Call (.Name "enumerate" p) [e] [] pos) (evalI Kt (.enu a)) :=
  pi_imp (pi_enum (pos := pos) (p := p) hg hm (da_cons h1 (da_nil (Kt := Kt)) hs') hs) fun σ H Q ⟨F, ι, env, st, S, E, q⟩ => by
    rw [evalI] at q
    refine ev_go (f := evalL Kt (.cons a .nil)) S E ?_
    have q' : PostG (RI T) T W σ F ι st.length ((evalL Kt (.cons a .nil) env st).bind fun vs st1 => match vs with
      | [x] => (frzV x st1).bind fun x st1 => match asL x with
        | some vs => .ok (enumV 0 vs) st1
        | none => .no
      | _ => .no) Q := by
      rw [evalL]
      revert q
      cases evalX Kt a env st with
      | no => exact fun q => q
      | er c fs s => exact fun q => q
      | ok v s =>
        simp only [R.bind_ok, evalL]
        exact fun q => q
    refine (PostG.bind (RA := RL T) q').imp fun xs H1 ⟨F1, ι1, vs, st1, M, p1⟩ => ?_
    split at p1
    · rename_i v
      obtain ⟨y, rfl, ry⟩ := M.rel.one
      obtain ⟨F2, w, st2, N, hl, S2, r2, hn, hz, p2⟩ := frz_post M.sim ry p1
      split at p2
      · rename_i vs hv
        obtain ⟨q, us, rfl, r1, l1⟩ := asL_rd r2 hv
        exact ⟨q, us, rfl, .inl (S2.sub.rd r1), p2.now (Next.refl _ _ _) (Nat.le_refl _) S2 (by rw [hK]; exact Wk.enum r1 l1)⟩
      · exact p2.elim
    · exact p1.elim
end
end Vm
end

section
/-! V27: zip of a text and a tuple. -/
namespace Vm
open PySem L2 PySem.Spec PyProof.Rows

def ItzS (K : PySem.W.Frag) (z : Str) (b : Addr) : It :=
  ⟨fun i H => ∃ (ys : List V) (c : Nat) (y : V), SqT K H b ys ∧ z.cps[i]? = some c ∧ ys[i]? = some y,
    fun i H v H' => ∃ T c y, v = .ref T ∧ H T = none ∧ H' = upd H T (.tup [.str ⟨#[c]⟩, y]) ∧ z.cps[i]? = some c ∧ ∀ ys, SqT K H b ys → ys[i]? = some y,
    fun i H => ∃ ys : List V, SqT K H b ys ∧ i ≤ z.cps.size ∧ i ≤ ys.length ∧ (i = z.cps.size ∨ i = ys.length)⟩
theorem turn_zipS {P : Program} {w : World} {K : PySem.W.Frag} {elts : List Expr} {kk : Nat} {tpos : Pos} {zs : Str} {tk : Tok} {b z TI TO i1 i2 : Addr} (D : ZipSep2 z TI TO i1 i2 [i1] [i2, b]) (hb : b ≠ i2) :
    Turn P w K (.Tuple elts kk tpos) (ItzS K zs b) [z, TI, TO, i1, i2] z (fun i h => IsZip h z TI TO .none ∧ IsTupOf2 h TI (.ref i1) (.ref i2) ∧ (∃ x y, IsTupOf2 h TO x y) ∧ h.IsStrIter i1 (strIterType zs) zs tk i ∧ h.IsTupleIter i2 b i) where
  mem := by simp
  obj := fun i h st c hc => by
    obtain ⟨hz, hTI, ⟨x, y, hTO⟩, ⟨o1, e1, _, d1⟩, ⟨o2, e2, _, d2⟩⟩ := st
    have e' : c = z ∨ c = TI ∨ c = TO ∨ c = i1 ∨ c = i2 := by simpa using hc
    rcases e' with q | q | q | q | q
    · rw [q]; exact ⟨_, hz, fun v q => nomatch q⟩
    · rw [q]; exact ⟨_, hTI, fun v q => nomatch q⟩
    · rw [q]; exact ⟨_, hTO, fun v q => nomatch q⟩
    · rw [q]; exact ⟨o1, e1, fun v q => by rw [d1] at q; cases q⟩
    · rw [q]; exact ⟨o2, e2, fun v q => by rw [d2] at q; cases q⟩
  keep := fun i h h' st k => by
    obtain ⟨hz, hTI, ⟨x, y, hTO⟩, ⟨o1, e1, r1⟩, h2⟩ := st
    exact ⟨k z (by simp) _ hz, k TI (by simp) _ hTI, ⟨x, y, k TO (by simp) _ hTO⟩, ⟨o1, k i1 (by simp) _ e1, r1⟩, h2.at fun o q => k i2 (by simp) o q⟩
  item := by
    intro X hP hw hK hc i pins s σ H E I hf st hg
    subst hP hw hK
    obtain ⟨hz, hTI, ⟨x0, y0, hTO⟩, h1, h2⟩ := st
    obtain ⟨ys, c, y, hq, hx, hy⟩ := hg
    obtain ⟨its, rv, p, _⟩ := I.tuple hq
    obtain ⟨u, hu, ru⟩ := rv.get hy
    have hzl : z < s.heap.objs.size := Heap.lt_size hz
    have hh : X.A.in1.handled = none := I.ok.hd hc
    have D1 := Draws.text (prog := X.prog) (w := X.w) (A := X.A.in1) hh i1 zs tk
    have D2 := Draws.tuple (prog := X.prog) (w := X.w) (A := X.A.in1) hh i2 b hb its.toArray
    have lt1 : i < zs.cps.size := (Array.getElem?_eq_some_iff.mp hx).1
    have lt2 : i < its.toArray.size := by
      rw [List.size_toArray, ← rv.length]
      rcases Nat.lt_or_ge i ys.length with h | h
      · exact h
      · rw [List.getElem?_eq_none h] at hy; cases hy
    refine wpAny_pyNext_zipD2_item D D1 D2 hz hTI hTO h1 ⟨h2, p⟩ lt1 lt2 fun v1 v2 h' t' q1 q2 z' TO' h1' h2' hT hsz hk => ?_
    refine ⟨_, rfl, wpAny_letOwnedTupleGo_zip (s := { s with heap := h', toks := t' }) z' fun h'' z'' sb => ?_⟩
    obtain ⟨c', tt, hc', rfl⟩ := q1
    rw [hx] at hc'
    cases hc'
    have e2 : v2 = u := by
      have := q2
      rw [← Array.getElem?_toList] at this
      simp only [List.toList_toArray] at this
      rw [hu] at this
      exact (Option.some.inj this).symm
    subst e2
    have hT2 : h''.get? s.heap.objs.size = some { cls := .type "tuple", data := .seq #[.str ⟨#[c]⟩ tt, v2] } := (sb.2 _ (Nat.ne_of_gt hzl)).trans hT
    have new : ObjOk X.prog X.w (upd H s.heap.objs.size (.tup [.str ⟨#[c]⟩, y])) h'' s.heap.objs.size (.tup [.str ⟨#[c]⟩, y]) :=
      ⟨by show 2 ≤ sizeLine; decide, [.str ⟨#[c]⟩ tt, v2], .cons ⟨tt, rfl⟩ (.cons ru .nil), ⟨_, hT2, rfl, _, rfl⟩⟩
    have I1 : Inv X pins σ (upd H s.heap.objs.size (.tup [.str ⟨#[c]⟩, y])) { s with heap := h'', toks := t' } :=
      I.turnedNew (t' := t') (ch := [z, TI, TO, i1, i2]) (fun c o hb q => (sb.2 c (fun q' => hb (by simp [q']))).trans (hk c o (fun q' => hb (by simp [q'])) (fun q' => hb (by simp [q'])) (fun q' => hb (by simp [q'])) (fun q' => hb (by simp [q'])) q)) hf (Nat.le_refl _) new
    have ni1 : i1 ≠ z := fun e => D.zf1 (by simp [e])
    have ni2 : i2 ≠ z := fun e => D.zf2 (by simp [e])
    refine ⟨.ref s.heap.objs.size, _, I1, rfl, ⟨_, c, y, rfl, I.hok.fresh (Nat.le_refl _), rfl, hx, fun l hl => by rw [I.tuple_inj hl hq]; exact hy⟩, ⟨z'', ?_, ⟨.str ⟨#[c]⟩ tt, v2, ?_⟩, ?_, ?_⟩, fun c hcm => ?_⟩
    · exact (sb.2 _ D.TIz).trans (hk _ _ D.TIz D.TITO D.TIi1 D.TIi2 hTI)
    · exact (sb.2 _ D.TOz).trans TO'
    · obtain ⟨o1, e1, r1⟩ := h1'
      exact ⟨o1, (sb.2 _ ni1).trans e1, r1⟩
    · exact h2'.1.at fun o q => (sb.2 _ ni2).trans q
    · have hlt : c < s.heap.objs.size := by
        have e' : c = z ∨ c = TI ∨ c = TO ∨ c = i1 ∨ c = i2 := by simpa using hcm
        rcases e' with q | q | q | q | q
        · rw [q]; exact hzl
        · rw [q]; exact Heap.lt_size hTI
        · rw [q]; exact Heap.lt_size hTO
        · rw [q]; obtain ⟨_, e1, _⟩ := h1; exact Heap.lt_size e1
        · rw [q]; obtain ⟨_, e1, _⟩ := h2; exact Heap.lt_size e1
      rw [upd_ne (Nat.ne_of_lt hlt)]
      exact (hf c hcm).1
  done := by
    intro X hP hw hK hc i pins s σ H E I hf st hg
    subst hP hw hK
    obtain ⟨hz, hTI, ⟨x0, y0, hTO⟩, h1, h2⟩ := st
    obtain ⟨ys, hq, l1, l2, hend⟩ := hg
    obtain ⟨its, rv, p, _⟩ := I.tuple hq
    have hh : X.A.in1.handled = none := I.ok.hd hc
    have D1 := Draws.text (prog := X.prog) (w := X.w) (A := X.A.in1) hh i1 zs tk
    have D2 := Draws.tuple (prog := X.prog) (w := X.w) (A := X.A.in1) hh i2 b hb its.toArray
    have hl := rv.length
    exact wpAny_pyNext_zipD2_end D D1 D2 hz hTI hTO h1 ⟨h2, p⟩ l1 (by show i ≤ its.length; rw [← hl]; exact l2) (by show i = zs.cps.size ∨ i = its.length; rw [← hl]; exact hend) fun h' t' hk => ⟨rfl, I.turnedL (t' := t') (ch := [z, TI, TO, i1, i2]) (fun c o hb q =>
      hk c o (fun q' => hb (by simp [q'])) (fun q' => hb (by simp [q'])) (fun q' => hb (by simp [q'])) (fun q' => hb (by simp [q'])) q) hf⟩
  self := fun A i s Q E st h => wpAny_pyIter_zip st.1 h
/-- zip(x, y): two lists, or a text and a tuple -/
def iZipB (K : PySem.W.Frag) (ta : TA) : TI := fun σ H R => ta σ H fun vs H1 => (∃ a b xs ys, vs = [.ref a, .ref b] ∧ SqL K H1 a xs ∧ SqL K H1 b ys ∧ R (Itz K a b) H1) ∨ (∃ z b ys, vs = [.str z, .ref b] ∧ SqT K H1 b ys ∧ R (ItzS K z b) H1)
theorem pi_zipB {X : Cx} {e e2 : Expr} {ta : TA} {p pos tpos : Pos} {elts : List Expr} {kk : Nat} (hg : Gl X "zip") (hm : X.mg "zip" = none) (ha : PA X [e, e2] ta)
    (hs : starEach [e, e2] X.env = (false, eval e X.env) :: starEach [e2] X.env) (hpl : (backTo pos (starEach [e2] X.env)).any (·.1) = false) :
    PI X (.Tuple elts kk tpos) (.Call (.Name "zip" p) [e, e2] [] pos) (iZipB X.K ta) := by
  refine ⟨fun pins s σ H R I h => ?_⟩
  refine Call_ (ld_blt I hg hm PyProof.Rows.boot_zip (PyProof.Rows.callWith_type1 (thn (ha.run pos pins s σ H _ I h) fun us s1 ⟨vs, H1, I1, r1, q1⟩ => ?_) hs hpl))
  have fresh5 : ∀ c, c ∈ [s1.heap.objs.size + 4, s1.heap.objs.size + 2, s1.heap.objs.size + 3, s1.heap.objs.size, s1.heap.objs.size + 1] → FpOk X pins H1 c := fun c hcm => by
    have e' : c = s1.heap.objs.size + 4 ∨ c = s1.heap.objs.size + 2 ∨ c = s1.heap.objs.size + 3 ∨ c = s1.heap.objs.size ∨ c = s1.heap.objs.size + 1 := by simpa using hcm
    have hle : s1.heap.objs.size ≤ c := by omega
    exact I1.fpOk hle (I1.hok.fresh hle)
  rcases q1 with ⟨a, b, xs, ys, ex, hqx, hqy, q⟩ | ⟨z, b, ys, ex, hq, q⟩
  · subst ex
    obtain ⟨u1, u2, rfl, ra, rb⟩ := vals2 r1
    cases ra
    cases rb
    obtain ⟨its, rv, p1, _⟩ := I1.list hqx
    obtain ⟨its2, rv2, p2, _⟩ := I1.list hqy
    refine call_zip_2 p1.isList p2.isList fun h' hz hTI hTO h1 h2 hsz hk => wpAny_pyIter_zip hz ?_
    have I2 : Inv X pins σ H1 { s1 with heap := h' } := I1.kept (t' := s1.toks) hk
    exact ⟨s1.heap.objs.size + 4, [s1.heap.objs.size + 4, s1.heap.objs.size + 2, s1.heap.objs.size + 3, s1.heap.objs.size, s1.heap.objs.size + 1], _, _, H1, rfl, I2, turn_zip (PySem.W.ktu_apart s1.heap.objs.size a b p1.lt p2.lt), ⟨hz, hTI, ⟨_, _, hTO⟩, h1, h2⟩, fresh5, q⟩
  · subst ex
    obtain ⟨u1, u2, rfl, ⟨t, rfl⟩, rb⟩ := vals2 r1
    cases rb
    obtain ⟨its, rv, p1, _⟩ := I1.tuple hq
    have hlt : b < s1.heap.objs.size := by obtain ⟨o, ho, _⟩ := id p1; exact Heap.lt_size ho
    refine zip_begins2 (begins_text z t) (begins_tuple b its.toArray) trivial p1 fun h' hz hTI hTO g1 g2 hsz hk => wpAny_pyIter_zip hz ?_
    have I2 : Inv X pins σ H1 { s1 with heap := h' } := I1.kept (t' := s1.toks) hk
    have D : ZipSep2 (s1.heap.objs.size + 4) (s1.heap.objs.size + 2) (s1.heap.objs.size + 3) s1.heap.objs.size (s1.heap.objs.size + 1) [s1.heap.objs.size] [s1.heap.objs.size + 1, b] := by
      have nb : ∀ k : Nat, s1.heap.objs.size + k ≠ b := fun k e => Nat.lt_irrefl _ (Nat.lt_of_lt_of_le hlt (by rw [← e]; exact Nat.le_add_right _ _))
      have nb0 : s1.heap.objs.size ≠ b := nb 0
      have nb4 := nb 4
      have nb3 := nb 3
      constructor <;> first | omega | (simp; done) | (simp; omega) | (simp; exact nb4) | (simp; exact nb3) | (simp; exact nb0) | (simp; exact ⟨by omega, nb4⟩) | (simp; exact ⟨by omega, nb3⟩) | (simp; exact ⟨by omega, nb0⟩)
    exact ⟨s1.heap.objs.size + 4, [s1.heap.objs.size + 4, s1.heap.objs.size + 2, s1.heap.objs.size + 3, s1.heap.objs.size, s1.heap.objs.size + 1], _, _, H1, rfl, I2, turn_zipS (zs := z) (tk := t) (b := b) D (fun e => Nat.lt_irrefl _ (Nat.lt_of_lt_of_le hlt (by rw [e]; exact Nat.le_add_right _ _))), ⟨hz, hTI, ⟨_, _, hTO⟩, ⟨_, g1, rfl, rfl⟩, ⟨_, g2, rfl, rfl⟩⟩, fresh5, q⟩
end Vm
end

section
/-! V28: zip as a step. -/
namespace Vm
open PySem L2 PySem.Spec PyProof.Rows

theorem Wk.zipS {T : Tb} {F : Hp} {ι : Nat → Addr} {n : Nat} {b : Addr} {z : Str} {ys : List V} {ds : List PyData} (h : F b = some (.tup ys)) (r : DatL T.K F ys ds) :
    Wk T F ι n ((((charsOf z).map Val.p).zip (ds.map Val.p)).map fun q => mkT [q.1, q.2]) (ItzS T.K z b) := by
  have len : (charsOf z).length = z.cps.size := by simp [charsOf]
  have at_ : ∀ {i : Nat} {v : Val}, ((charsOf z).map Val.p)[i]? = some v → ∃ c, z.cps[i]? = some c ∧ v = .p (.str ⟨#[c]⟩) := fun {i v} e => by
    unfold charsOf at e
    rw [List.getElem?_map, List.getElem?_map, Array.getElem?_toList] at e
    cases q : z.cps[i]? with
    | none => rw [q] at e; cases e
    | some c => rw [q] at e; cases e; exact ⟨c, rfl, rfl⟩
  have rr : VRelL T F ι n (ds.map .p) ys := .ofDat r
  refine ⟨fun T' F' ι' st H i v t N hn S e => ?_, fun T' F' ι' st H i v x H' t N hn S e y => ?_, fun T' F' ι' st H t N hn S => ?_⟩
  · obtain ⟨v1, v2, h1, h2, _⟩ := zip_get e
    obtain ⟨c, hc, _⟩ := at_ h1
    obtain ⟨y, hy, _⟩ := rr.get h2
    exact ⟨ys, c, y, SqT.of (S.sub.tup (N.f _ _ h)), hc, hy⟩
  · obtain ⟨v1, v2, h1, h2, rfl⟩ := zip_get e
    obtain ⟨c, hc, rfl⟩ := at_ h1
    obtain ⟨y', hy, r2⟩ := rr.get h2
    obtain ⟨p, c', y2, rfl, hp, rfl, k1, k2⟩ := y
    rw [hc] at k1
    cases k1
    have e2 := k2 ys (SqT.of (S.sub.tup (N.f _ _ h)))
    rw [hy] at e2
    cases e2
    exact pair_new S hp (.p (.str _)) (r2.up N hn)
  · have l2 := r.length
    refine ⟨ys, SqT.of (S.sub.tup (N.f _ _ h)), ?_⟩
    rw [List.length_map, List.length_zip, List.length_map, List.length_map, len, ← l2]
    omega
section
variable {X : Cx} {T : Tb} {W : L2.WX} {Kt : Kit} {e e1 e2 : Expr} {es elts : List Expr} {pos p p2 tpos : Pos} {kk : Nat}
theorem di_zip {a b : Ex} (hK : X.K = T.K) (hg : Gl X "zip") (hm : X.mg "zip" = none) (h1 : DE X T W e1 (evalX Kt a)) (h2 : DE X T W e2 (evalX Kt b)) (hs : starEach [e1, e2] X.env = (false, eval e1 X.env) :: starEach [e2] X.env) (hs2 : starEach [e2] X.env = (false, eval e2 X.env) :: starEach [] X.env) (hpl : (backTo pos (starEach [e2] X.env)).any (·.1) = false) :
    DI X T W (.Tuple elts kk tpos) (.Call (.Name "zip" p) [e1, e2] [] pos) (evalI Kt (.zip a b)) :=
  pi_imp (pi_zipB (pos := pos) (p := p) hg hm (da_cons h1 (da_cons h2 (da_nil (Kt := Kt)) hs2) hs) hs hpl) fun σ H Q ⟨F, ι, env, st, S, E, q⟩ => by
    rw [evalI] at q
    refine ev_go (f := evalL Kt (.cons a (.cons b .nil))) S E ?_
    have q' : PostG (RI T) T W σ F ι st.length ((evalL Kt (.cons a (.cons b .nil)) env st).bind fun vs st2 => match vs with
      | [x, y] => (frzV x st2).bind fun x st2 => (frzV y st2).bind fun y st2 => match zipV x y with
        | some vs => .ok vs st2
        | none => .no
      | _ => .no) Q := by
      rw [evalL]
      revert q
      cases evalX Kt a env st with
      | no => exact fun q => q
      | er c fs s => exact fun q => q
      | ok v s =>
        simp only [R.bind_ok, evalL]
        cases evalX Kt b env s with
        | no => exact fun q => q
        | er c fs s => exact fun q => q
        | ok w s2 =>
          simp only [R.bind_ok]
          exact fun q => q
    refine (PostG.bind (RA := RL T) q').imp fun xs H1 ⟨F1, ι1, vs, st1, M, p1⟩ => ?_
    split at p1
    · rename_i v1 v2
      obtain ⟨y1, y2, rfl, r1, r2⟩ := M.rel.two
      obtain ⟨F2, w1, st2, N, hl, S2, q1, hn, hz, p2⟩ := frz_post M.sim r1 p1
      obtain ⟨F3, w2, st3, N2, hl2, S3, q2, hn2, hz2, p3⟩ := frz_post (v := v2) S2 (r2.up (n' := st2.length) N (by rw [hl]; exact Nat.le_refl _)) p2
      have q1 := q1.up (n' := st3.length) N2 (by rw [hl2]; exact Nat.le_refl _)
      split at p3
      · rename_i vs hv
        unfold zipV at hv
        split at hv
        · rename_i us ws k1 k2
          cases hv
          obtain ⟨a1, xs1, rfl, d1, l1⟩ := asL_rd q1 k1
          obtain ⟨a2, xs2, rfl, d2, l2⟩ := asL_rd q2 k2
          exact .inl ⟨a1, a2, xs1, xs2, rfl, .inl (S3.sub.rd d1), .inl (S3.sub.rd d2), p3.now (Next.refl _ _ _) (Nat.le_refl _) S3 (by rw [hK]; exact Wk.zipL d1 l1 d2 l2)⟩
        · split at hv
          · cases hv
            cases q1 with
            | p q1 =>
              cases q2 with
              | p q2 =>
                cases q1
                cases q2 with
                | tup g1 g2 => exact .inr ⟨_, _, _, rfl, SqT.of (S3.sub.tup g1), p3.now (Next.refl _ _ _) (Nat.le_refl _) S3 (by rw [hK]; exact Wk.zipS g1 g2)⟩
          · cases hv
      · exact p3.elim
    · exact p1.elim
end
end Vm
end

section
/-! V29: dict displays. -/
namespace Vm
open PySem L2 PySem.Spec PyProof.Rows

def tExG (T : Tb) (W : L2.WX) (Kt : Kit) (e : Ex) : TE := fun σ H K => ∃ G, tEvG (RV (T.wG G)) (T.wG G) W (evalX Kt e) σ H K
def trsOf (T : Tb) (W : L2.WX) (Kt : Kit) : Ex → List (TE × TE)
  | .cons k (.cons v r) => (tExG T W Kt k, tExG T W Kt v) :: trsOf T W Kt r
  | _ => []
def evenL : Ex → Bool
  | .nil => true
  | .cons _ (.cons _ r) => evenL r
  | _ => false
def toPairs : List V → List (V × V)
  | x :: y :: r => (x, y) :: toPairs r
  | _ => []
section
variable {T : Tb} {W : L2.WX} {Kt : Kit}
theorem pairs_ev : ∀ (a : Ex), evenL a = true → ∀ (G : Hp) (σ : L2.St) (H : Hp) (K : List (V × V) → Hp → Prop), tEvG (RL (T.wG G)) (T.wG G) W (evalL Kt a) σ H (fun xs H1 => K (toPairs xs) H1) → tPairs (trsOf T W Kt a) σ H K
  | .nil, _, G, σ, H, K, ⟨F, ι, env, st, S, E, p⟩ => by
    rw [evalL] at p
    exact p.now (Next.refl _ _ _) (Nat.le_refl _) S .nil
  | .cons k (.cons v r), he, G, σ, H, K, ⟨F, ι, env, st, S, E, p⟩ => by
    rw [evalL] at p
    refine ⟨G, ev_go S E ((PostG.bind (RA := RV (T.wG G)) p).imp fun x H1 ⟨F1, ι1, x', st1, M, p1⟩ => ?_)⟩
    have E1 := E.up M.nx M.le
    rw [evalL, bind_bind] at p1
    refine ⟨G, ev_go M.sim E1 ((PostG.bind (RA := RV (T.wG G)) p1).imp fun y H2 ⟨F2, ι2, y', st2, M2, p2⟩ => ?_)⟩
    have E2 := E1.up M2.nx M2.le
    refine pairs_ev r (by simpa [evenL] using he) G σ H2 _ (ev_go M2.sim E2 ?_)
    rw [bind_bind] at p2
    refine (PostG.bind (RA := RL (T.wG G)) p2).imp fun xs H3 ⟨F3, ι3, xs', st3, M3, p3⟩ => ?_
    simp only [R.bind_ok] at p3
    exact p3.now (Next.refl _ _ _) (Nat.le_refl _) M3.sim (.cons ((M.rel.up M2.nx M2.le).up M3.nx M3.le) (.cons (M2.rel.up M3.nx M3.le) M3.rel))
end
section
variable {T : Tb} {F H : Hp} {ι : Nat → Addr} {n : Nat}
/-- the pairs of a display, keys ints and texts -/
theorem pairs_rel : ∀ {vs : List Val} {xs : List V} {kvs : List (PyData × Val)}, VRelL T F ι n vs xs → pairsOf vs = some kvs → (kvs.all fun q => isKey1 q.1) = true → ∃ ks : List (Key × V), toPairs xs = ks.map (fun kv => (kV kv.1, kv.2)) ∧ MdK T F ι n kvs ks
  | _, _, _, .nil, e, _ => by cases e; exact ⟨[], rfl, .nil⟩
  | [.p k], _, _, .cons h1 .nil, e, _ => by cases e
  | .p k :: v :: vs, _, kvs, .cons h1 (.cons (x := y) h2 h3), e, hk => by
    cases q : pairsOf vs with
    | none => rw [pairsOf, q] at e; cases e
    | some r =>
      rw [pairsOf, q] at e
      cases e
      rw [List.all_cons, Bool.and_eq_true] at hk
      obtain ⟨ks, e1, r1⟩ := pairs_rel h3 q hk.2
      cases h1 with
      | p h1 =>
        obtain ⟨g, rfl, rfl⟩ := key1_of h1 hk.1
        exact ⟨(g, y) :: ks, by rw [toPairs, e1]; rfl, .cons h2 r1⟩
  | .r _ :: _, _, _, .cons _ _, e, _ => by cases e
  | .t _ :: _, _, _, .cons _ _, e, _ => by cases e
  | .l _ :: _, _, _, .cons _ _, e, _ => by cases e
  | .x _ _ :: _, _, _, .cons _ _, e, _ => by cases e
end
end Vm
end

section
/-! V30: dict displays as a step. -/
namespace Vm
open PySem L2 PySem.Spec PyProof.Rows

section
variable {T : Tb} {F H : Hp} {ι : Nat → Addr} {n : Nat}
theorem MdK.snoc {k : Key} {v : Val} {x : V} (hd : VRel T F ι n v x) : ∀ {es : List (PyData × Val)} {kvs : List (Key × V)}, MdK T F ι n es kvs → MdK T F ι n (es ++ [(keyD k, v)]) (kvs ++ [(k, x)])
  | _, _, .nil => .cons hd .nil
  | _, _, .cons h1 h2 => .cons h1 (MdK.snoc hd h2)
theorem MdK.mapP {k : Key} {v : Val} {x : V} (hd : VRel T F ι n v x) : ∀ {es : List (PyData × Val)} {kvs : List (Key × V)}, MdK T F ι n es kvs → MdK T F ι n (es.map fun q => if keyEq q.1 (keyD k) = true then (q.1, v) else q) (kvs.map fun q => if q.1 = k then (q.1, x) else q)
  | _, _, .nil => .nil
  | _, _, .cons (k := kk) h1 h2 => by
    rw [List.map_cons, List.map_cons]
    have q : keyEq (keyD kk) (keyD k) = decide (kk = k) := keyD_eqv kk k
    simp only [q]
    by_cases z : kk = k
    · rw [if_pos z, if_pos (decide_eq_true z)]
      exact .cons hd (MdK.mapP hd h2)
    · rw [if_neg z, if_neg (by simpa using z)]
      exact .cons h1 (MdK.mapP hd h2)
theorem MdK.anyEq (k : Key) : ∀ {es : List (PyData × Val)} {kvs : List (Key × V)}, MdK T F ι n es kvs → (kvs.any fun kv => decide (kv.1 = k)) = es.any fun q => keyEq q.1 (keyD k)
  | _, _, .nil => rfl
  | _, _, .cons (k := kk) h1 h2 => by
    rw [List.any_cons, List.any_cons, MdK.anyEq k h2]
    have q : keyEq (keyD kk) (keyD k) = decide (kk = k) := keyD_eqv kk k
    simp only [q]
theorem MdK.put {k : Key} {v : Val} {x : V} (hd : VRel T F ι n v x) {es : List (PyData × Val)} {kvs : List (Key × V)} (h : MdK T F ι n es kvs) : MdK T F ι n (Vm.putK es (keyD k) v) (L2.putK kvs k x) := by
  unfold L2.putK Vm.putK
  rw [h.anyEq k]
  split
  · exact h.mapP hd
  · exact h.snoc hd
theorem MdK.puts : ∀ (fs : List (PyData × Val)) (more : List (Key × V)) (es : List (PyData × Val)) (kvs : List (Key × V)), MdK T F ι n fs more → MdK T F ι n es kvs → MdK T F ι n (fs.foldl (fun a q => Vm.putK a q.1 q.2) es) (more.foldl (fun a q => L2.putK a q.1 q.2) kvs)
  | _, _, _, _, .nil, h => h
  | (_, v) :: fs, (k, x) :: more, es, kvs, h0, h => by
    cases h0 with
    | cons h1 h2 => exact MdK.puts fs more (Vm.putK es (keyD k) v) (L2.putK kvs k x) h2 (MdK.put h1 h)
theorem MdK.len : ∀ {es : List (PyData × Val)} {kvs : List (Key × V)}, MdK T F ι n es kvs → es.length = kvs.length
  | _, _, .nil => rfl
  | _, _, .cons _ h => by simp [MdK.len h]
theorem MdK.pure : ∀ {es : List (PyData × Val)} {kvs : List (Key × V)} {ds : List PyData}, MdK T F ι n es kvs → unPs (es.map (·.2)) = some ds → DatK T.K F kvs ((es.map (·.1)).zip ds)
  | _, _, _, .nil, e => by cases e; exact .nil
  | _, _, ds, .cons (v := v) (vs := vs) h1 h2, e => by
    rw [List.map_cons, unPs] at e
    cases v with
    | p d =>
      cases q : unPs (vs.map (·.2)) with
      | none => simp only [unP, q] at e; cases e
      | some es =>
        simp only [unP, q] at e
        cases e
        cases h1 with
        | p h1 => exact .cons h1 (MdK.pure h2 q)
    | _ => cases e
theorem allocD_at {W : L2.WX} {σ : L2.St} {D : Addr} {st : Store} {f : Nat} {kvs : List (PyData × Val)} {ks : List (Key × V)} {Q : VK} (S : Sim (T.wG (upd T.G D (.dK ks))) F ι st H) (hD : T.G D = none) (r : MdK T F ι st.length kvs ks) (p : PostG (RV T) T W σ F ι st.length (allocD f kvs st) Q) : Q (.ref D) H := by
  obtain ⟨S1, h, f0, ne⟩ := S.melt hD
  have last : ∀ c : Cell, VRel T F (fun k => if k = st.length then D else ι k) (st ++ [c]).length (.r st.length) (.ref D) := fun c => by
    have := VRel.r (T := T) (F := F) (ι := fun k => if k = st.length then D else ι k) (n := (st ++ [c]).length) (k := st.length) (by simp)
    simpa using this
  unfold allocD at p
  split at p
  · split at p
    · rename_i ds e
      obtain ⟨S2, N⟩ := S1.adoptF hD h f0 ne
      exact p _ ι H _ N (Nat.le_refl _) S2 (.p (.dik (.inl upd_same) ((r.pure e).up (T := T) (F' := upd F D (.dK ks)) N.sub)))
    · exact p.elim
  · split at p
    · rename_i ds e
      obtain ⟨S2, N⟩ := S1.adoptC (c := .pd ((kvs.map (·.1)).zip ds)) hD h ne ⟨f0, .inl ⟨ks, h, r.pure e⟩⟩
      exact p F _ _ (.ref D) N (by simp) S2 (last _)
    · exact p.elim
  · obtain ⟨S2, N⟩ := S1.adoptC (c := .md kvs) hD h ne ⟨f0, .inl ⟨ks, h, r.up ⟨fun _ _ h => h, fun k hk => if_neg (Nat.ne_of_lt hk)⟩ (Nat.le_succ _)⟩⟩
    exact p F _ _ (.ref D) N (by simp) S2 (last _)
theorem MdK.to' {T' : Tb} (h : SameT T T') {vs : List (PyData × Val)} {xs : List (Key × V)} (q : MdK T F ι n vs xs) : MdK T' F ι n vs xs := MdK.to h q
end
section
variable {X : Cx} {T : Tb} {W : L2.WX} {Kt : Kit} {pos : Pos} {keys : List (Option Expr)} {values : List Expr} {f : Nat} {a : Ex}
theorem disp_ev {σ : L2.St} {H : Hp} {Q : VK} (he : evenL a = true) (q : tEvG (RV T) T W (evalX Kt (.dic f a)) σ H Q) : tDisp (trsOf T W Kt a) σ H Q := fun p hp => by
  obtain ⟨F, ι, env, st, S, E, q⟩ := q
  rw [evalX] at q
  have gD : T.G p = none := by
    cases z : T.G p with
    | none => rfl
    | some o => have := S.gd p o z; rw [hp] at this; cases this
  refine pairs_ev a he (upd T.G p (.dK [])) σ _ _ ⟨F, ι, env, st, S.guard hp, E.to (SameT.wG T _), ?_⟩
  revert q
  cases evalL Kt a env st with
  | no => exact fun q => q.elim
  | er c fs s =>
    intro q F' ι' H' cls d N hn S' x
    exact q F' ι' H' cls d N hn (S'.melt gD).1 ⟨x.cls, x.dct⟩
  | ok vs s =>
    intro q F' ι' H' xs N hn S' r
    simp only [R.bind_ok] at q
    have hDD : H' p = some (.dK []) := S'.gd p _ upd_same
    refine ⟨hDD, ?_⟩
    have r := VRelL.to r (SameT.wG T (upd T.G p (.dK []))).symm
    split at q
    · rename_i kvs hk
      split at q
      · rename_i hh
        obtain ⟨ks, e1, r1⟩ := pairs_rel r hk hh.1
        refine ⟨ks, e1, by rw [← r1.len]; exact hh.2, ?_⟩
        exact allocD_at (D := p) S'.reguard gD (MdK.puts _ _ _ _ r1 .nil) (q.up N hn fun _ _ _ _ => trivial)
      · exact q.elim
    · exact q.elim
theorem dps_nil : PPs X pos [] [] (trsOf T W Kt .nil) := pps_nil
theorem dps_cons {k v : Expr} {ks : List (Option Expr)} {vs : List Expr} {x y r : Ex} (hk : ∀ G, DE X (T.wG G) W k (evalX Kt x)) (hv : ∀ G, DE X (T.wG G) W v (evalX Kt y)) (hr : PPs X pos ks vs (trsOf T W Kt r)) : PPs X pos (some k :: ks) (v :: vs) (trsOf T W Kt (.cons x (.cons y r))) :=
  pps_cons ⟨fun pins s σ H Q I ⟨G, q⟩ => (hk G).run pins s σ H Q I q⟩ ⟨fun pins s σ H Q I ⟨G, q⟩ => (hv G).run pins s σ H Q I q⟩ hr
theorem de_dic (h : PPs X pos keys values (trsOf T W Kt a)) (he : evenL a = true) (hall : keys.all (·.isSome) = true) (hl : keys.length = values.length) (h0 : keys ≠ []) (h15 : keys.length ≤ 15) : DE X T W (.Dict keys values pos) (evalX Kt (.dic f a)) :=
  pe_imp (pe_disp h hall hl h0 h15) fun σ H Q q => disp_ev he q
theorem de_dic0 : DE X T W (.Dict [] [] pos) (evalX Kt (.dic f .nil)) := pe_imp pe_dnewK fun σ H Q ⟨F, ι, env, st, S, E, q⟩ p hp => by
  have gD : T.G p = none := by
    cases z : T.G p with
    | none => rfl
    | some o => have := S.gd p o z; rw [hp] at this; cases this
  rw [evalX, evalL] at q
  simp only [R.bind_ok, pairsOf] at q
  rw [if_pos ⟨rfl, by decide⟩] at q
  exact allocD_at (D := p) (ks := []) (S.guard hp) gD .nil q
end
end Vm
end

section
/-! V31: what must be seen of the text; pairs of names. -/
namespace Vm
open PySem L2 PySem.Spec PyProof.Rows

def nStar : Expr → Bool
  | .Starred .. => false
  | _ => true
def nBase : Expr → Bool
  | .Call _ [] _ _ => false
  | _ => true
def nComp : Expr → Bool
  | .ListComp .. => false
  | .SetComp .. => false
  | .DictComp .. => false
  | _ => true
def nSet : Expr → Bool
  | .Set .. => false
  | _ => true
def nSlice : Expr → Bool
  | .Slice .. => false
  | _ => true
def nTest : Expr → Bool
  | .UnaryOp .Not _ _ => false
  | .BoolOp .. => false
  | .IfExp .. => false
  | .Compare .. => false
  | _ => true
def nTup : Expr → Bool
  | .Tuple .. => false
  | _ => true
section
variable {env : PySem.Env} {e o : Expr} {es : List Expr} {pos : Pos}
theorem star_cons (h : nStar e = true) : starEach (e :: es) env = (false, eval e env) :: starEach es env := by
  cases e <;> first | rfl | cases h
theorem star_any : ∀ {es : List Expr}, es.all nStar = true → (backTo pos (starEach es env)).any (·.1) = false
  | [], _ => rfl
  | e :: es, h => by
    rw [List.all_cons, Bool.and_eq_true] at h
    rw [star_cons h.1]
    show (false || (backTo pos (starEach es env)).any (·.1)) = false
    rw [Bool.false_or]
    exact star_any h.2
theorem star_all : ∀ {es : List Expr}, es.all nStar = true → (backTo pos (starEach es env)).all (fun x => !x.1) = true
  | [], _ => rfl
  | e :: es, h => by
    rw [List.all_cons, Bool.and_eq_true] at h
    rw [star_cons h.1]
    show (!false && (backTo pos (starEach es env)).all (fun x => !x.1)) = true
    exact star_all h.2
theorem few_ok (h : es.all nStar = true) (hl : es.length < 30) : ((backTo pos (starEach es env)).all (fun x => !x.1) && (backToKw pos (keywordEach [] env)).all (fun x => x.1.isSome)
      && decide (es.length + ([] : List Keyword).length + (if ([] : List Keyword).isEmpty then 0 else 1) < 30)) = true := by
  rw [star_all h]
  show (true && true && decide (es.length + 0 + 0 < 30)) = true
  simp [hl]
theorem base_ok {name : Str} (h : nBase o = true) : attributeBase o name env (eval o env) = eval o env := by
  cases o <;> first | rfl | skip
  rename_i f args kws pos
  cases args with
  | nil => cases h
  | cons a as => cases f <;> rfl
theorem swaps_ok {t : Option Expr} {l : Nat} (h : nComp e = true) : swapsWith e t l env = pure false := by
  cases e <;> first | rfl | cases h
theorem sole_ok {t : Expr} {l : Nat} (h : nComp e = true) : swapsWithSole [t] e l env = pure false := swaps_ok h
theorem stores_ok {t : Expr} (h : nTup e = true) : swappedStores [t] e env = pure none := by
  unfold swappedStores
  cases t <;> (cases e <;> first | rfl | cases h)
theorem stores_ok1 {x : Str} {p : Pos} : swappedStores [.Name x p] e env = pure none := by
  unfold swappedStores
  cases e <;> rfl
theorem stores_ok2 {a b : Expr} {p : Pos} : swappedStores [.Subscript a b p] e env = pure none := by
  unfold swappedStores
  cases e <;> rfl
theorem fold_ok (h : nSet e = true) : ∀ x, foldedSetIterable e env x = pure x := fun x => by
  cases e <;> first | rfl | cases h
theorem ix_ok (h : nSlice e = true) : PlainIx e := fun o i => by
  cases e <;> first | rfl | cases h
theorem test_ok (h : nTest e = true) (whole : Sem Value) : isTrue e env whole = (do let v ← whole; standAt e.pos; holding [v] (truthy v)) := by
  cases e <;> first | rfl | (cases h; done) | skip
  rename_i op x p
  cases op <;> first | rfl | cases h
theorem each_one {t : Expr} (h : nStar t = true) : (assignEach [t] env).map (·.2) = [assign t env] := by
  cases t <;> first | rfl | cases h
theorem each_all : ∀ {es : List Expr}, es.all nStar = true → (assignEach es env).length = es.length ∧ (assignEach es env).findIdx? (·.1) = none
  | [], _ => ⟨rfl, rfl⟩
  | e :: es, h => by
    rw [List.all_cons, Bool.and_eq_true] at h
    obtain ⟨h1, h2⟩ := each_all (es := es) h.2
    have z : assignEach (e :: es) env = (false, assign e env) :: assignEach es env := by
      cases e <;> first | rfl | (exact absurd h.1 (by simp [nStar]))
    rw [z]
    refine ⟨by simp [h1], ?_⟩
    rw [List.findIdx?_cons]
    simp [h2]
end
end Vm
end

section
/-! V32: calls by keywords; pairs of names. -/
namespace Vm
open PySem L2 PySem.Spec PyProof.Rows

abbrev DK (X : Cx) (T : Tb) (W : L2.WX) (kws : List Keyword) (f : Env → Store → R (List Val)) : Prop := PK X kws (tEvG (RL T) T W f)
theorem pk_imp {X : Cx} {e : List Keyword} {t t' : TA} (h : PK X e t) (i : ∀ σ H Q, t' σ H Q → t σ H Q) : PK X e t' := ⟨fun pos pins s σ H Q I q => h.run pos pins s σ H Q I (i _ _ _ q)⟩
theorem permL_rel {T : Tb} {F : Hp} {ι : Nat → Addr} {n : Nat} {vs : List Val} {xs : List V} (r : VRelL T F ι n vs xs) : ∀ pm : List Nat, VRelL T F ι n (permL pm vs) (permL pm xs)
  | [] => .nil
  | i :: pm => by
    have ih := permL_rel r pm
    unfold permL at ih ⊢
    rw [List.filterMap_cons, List.filterMap_cons]
    cases h : vs[i]? with
    | none =>
      have : xs[i]? = none := by
        rw [List.getElem?_eq_none_iff] at h ⊢
        rw [← r.length]; exact h
      rw [this]
      exact ih
    | some v =>
      obtain ⟨x, hx, rx⟩ := r.get h
      rw [hx]
      exact .cons rx ih
theorem permL_vals {vs : List V} {us : List Value} (r : Vals vs us) : ∀ pm : List Nat, Vals (permL pm vs) (permL pm us) := by
  have get : ∀ {vs : List V} {us : List Value}, Vals vs us → ∀ i : Nat, (vs[i]? = none ∧ us[i]? = none) ∨ ∃ v u, vs[i]? = some v ∧ us[i]? = some u ∧ RelV v u := by
    intro vs us r
    induction r with
    | nil => exact fun i => .inl ⟨by simp, by simp⟩
    | cons h _ ih =>
      intro i
      cases i with
      | zero => exact .inr ⟨_, _, rfl, rfl, h⟩
      | succ i => simpa using ih i
  intro pm
  induction pm with
  | nil => exact .nil
  | cons i pm ih =>
    unfold permL at ih ⊢
    rw [List.filterMap_cons, List.filterMap_cons]
    rcases get r i with ⟨h1, h2⟩ | ⟨v, u, h1, h2, h3⟩
    · rw [h1, h2]; exact ih
    · rw [h1, h2]; exact .cons h3 ih
/-- how f(.., k = v) binds -/
def KSig (K : PySem.W.Frag) (fd : FuncData) (ps : List Str) (n : Nat) (ks : List Str) (pm : List Nat) : Prop :=
  ∀ (s : Shared) (us ws : List Value), K.In s.heap → us.length = n → ws.length = ks.length → BindsTo s fd ⟨us, ks.zip ws⟩ (ps.zip (permL pm (us ++ ws)))
def tCallP (sp : Sp) (n m : Nat) (pm : List Nat) (E : L2.St → XK) (t tk : TA) : TE := fun σ H Q => t σ H fun vs H1 => tk σ H1 fun zs H2 => vs.length = n ∧ zs.length = m ∧ sp (permL pm (vs ++ zs)) H2 Q (E σ)
section
variable {X : Cx} {k n : Nat} {f : Addr} {fd : FuncData} {ps ks : List Str} {pm : List Nat} {sp : Sp} {E : L2.St → XK} {x : Str} {p pos : Pos} {e : Expr} {es : List Expr} {kws : List Keyword} {t tk : TA}
theorem run_fnGK {pins : List (Addr × Obj)} {σ : L2.St} {H : Hp} {s : Shared} {Q : VK} {us ws : List Value} {vs zs : List V} (F : FnG X.prog X.w X.K X.mg X.base k f fd ps sp) (hr : Room k X.A) (hG : X.A.guards = some []) (hb : KSig X.K fd ps n ks pm) (hx : PassesAt (L2.CX X.prog X.w) X σ (E σ))
    (I : Inv X pins σ H s) (r : Vals vs us) (rz : Vals zs ws) (l1 : vs.length = n) (l2 : zs.length = ks.length) (h : sp (permL pm (vs ++ zs)) H Q (E σ)) : wpAny (model X.prog X.w) X.A (call (.ref f) us (ks.zip ws)) (EP X pins σ Q) X.xe s := by
  have r2 := permL_vals (r.append rz) pm
  refine wpAny_call (codeAny_mono (F.run X.A X.stack s H ⟨us, ks.zip ws⟩ _ _ Q (E σ) hr hG I.env0 (hb s us ws I.kIn (r.length.symm.trans l1) (rz.length.symm.trans l2)) r2 h) fun r s' hq => ?_)
  cases r with
  | error e => exact hx pins H s e s' I hq
  | ok fl =>
    cases fl with
    | ret u => exact I.after hq
    | next => exact False.elim hq
    | brk => exact False.elim hq
    | cont => exact False.elim hq
theorem pe_callGK0 (F : FnG X.prog X.w X.K X.mg X.base k f fd ps sp) (hr : Room k X.A) (hG : X.A.guards = some []) (hg : Gl X x) (hm : X.mg x = some (.ref f)) (hk : PySem.W.keepIn X.K (.ref f) = true) (hb : KSig X.K fd ps 0 ks pm) (hx : ∀ σ, PassesAt (L2.CX X.prog X.w) X σ (E σ))
    (hkw : PK X kws tk) (hall : (backToKw pos (keywordEach kws X.env)).all (·.1.isSome) = true) (hks : (backToKw pos (keywordEach kws X.env)).filterMap (·.1) = ks)
    (hdb : (x == ("__debug__" : Str)) = false)
    (hpl : ((backTo pos (starEach [] X.env)).any (·.1) || (backToKw pos (keywordEach kws X.env)).any (·.1.isNone)) = false) :
    PE X (.Call (.Name x p) [] kws pos) (fun σ H Q => tk σ H fun zs H2 => zs.length = ks.length ∧ sp (permL pm zs) H2 Q (E σ)) := by
  refine ⟨fun pins s σ H Q I h => ?_⟩
  refine wpAny_Call_Name_kw (ld_glob I hg hm ?_ hdb)
  refine PySem.W.callWith_KW0 (h₀ := X.base) I.ok.mod.kin hk hall ?_ hpl
  refine thn (hkw.run pos pins s σ H _ I h) fun ws s2 ⟨zs, H2, I2, rz, l2, q2⟩ => ⟨I2.kIn, ?_⟩
  rw [hks]
  exact run_fnGK (vs := []) (us := []) F hr hG hb (hx σ) I2 .nil rz rfl l2 q2
theorem pe_callGK (F : FnG X.prog X.w X.K X.mg X.base k f fd ps sp) (hr : Room k X.A) (hG : X.A.guards = some []) (hg : Gl X x) (hm : X.mg x = some (.ref f)) (hk : PySem.W.keepIn X.K (.ref f) = true) (hb : KSig X.K fd ps n ks pm) (hx : ∀ σ, PassesAt (L2.CX X.prog X.w) X σ (E σ))
    (ha : PA X (e :: es) t) (hkw : PK X kws tk) (hall : (backToKw pos (keywordEach kws X.env)).all (·.1.isSome) = true) (hks : (backToKw pos (keywordEach kws X.env)).filterMap (·.1) = ks)
    (hdb : (x == ("__debug__" : Str)) = false) (he : starEach (e :: es) X.env = (false, eval e X.env) :: starEach es X.env)
    (hpl : ((backTo pos (starEach (e :: es) X.env)).any (·.1) || (backToKw pos (keywordEach kws X.env)).any (·.1.isNone)) = false) :
    PE X (.Call (.Name x p) (e :: es) kws pos) (tCallP sp n ks.length pm E t tk) := by
  refine ⟨fun pins s σ H Q I h => ?_⟩
  refine wpAny_Call_Name_kw (ld_glob I hg hm ?_ hdb)
  refine PySem.W.callWith_KW (h₀ := X.base) I.ok.mod.kin hk hall (thn (ha.run pos pins s σ H _ I h) fun us s1 ⟨vs, H1, I1, r, q⟩ => ?_) hpl he
  refine thn (hkw.run pos pins s1 σ H1 _ I1 q) fun ws s2 ⟨zs, H2, I2, rz, l1, l2, q2⟩ => ⟨I2.kIn, ?_⟩
  rw [hks]
  exact run_fnGK F hr hG hb (hx σ) I2 r rz l1 l2 q2
end
section
variable {X : Cx} {T : Tb} {W : L2.WX} {Kt : Kit} {e : Expr} {es : List Expr} {kws : List Keyword} {pos p kpos : Pos} {x : Str} {nm : Option Str}
theorem dk_nil : DK X T W [] (evalL Kt .nil) := pk_imp pk_nil fun σ H Q hh => by
  obtain ⟨F, ι, env, st, S, E, p⟩ := hh
  rw [evalL] at p
  exact p.now (Next.refl _ _ _) (Nat.le_refl _) S .nil
theorem dk_cons {a b : Ex} (h1 : DE X T W e (evalX Kt a)) (h2 : DK X T W kws (evalL Kt b)) : DK X T W (⟨nm, e, kpos⟩ :: kws) (evalL Kt (.cons a b)) :=
  pk_imp (pk_cons (nm := nm) (kpos := kpos) h1 h2) fun σ H Q hh => by
    obtain ⟨F, ι, env, st, S, E, p⟩ := hh
    rw [evalL] at p
    refine tEvG.imp (ev_go S E (PostG.bind (RA := RV T) p)) fun x H1 ⟨F1, ι1, v, st1, M, p1⟩ => ?_
    refine tEvG.imp (ev_go M.sim (E.up M.nx M.le) (PostG.bind (RA := RL T) p1)) fun xs H2 ⟨F2, ι2, vs, st2, M2, p2⟩ => ?_
    exact p2.now (Next.refl _ _ _) (Nat.le_refl _) M2.sim (.cons (M.rel.up M2.nx M2.le) M2.rel)
theorem sp_go {P : Pg} {n i : Nat} {F H : Hp} {ι : Nat → Addr} {st : Store} {vs : List Val} {xs : List V} {Q : VK} {σ : L2.St} (S : Sim T F ι st H) (r : VRelL T F ι st.length vs xs) (p : PostG (RV T) T W σ F ι st.length (runF P n i vs st) Q) : spOf T P n i xs H Q (fun cls d H => W cls d σ H) := by
  obtain ⟨d, h1, h2⟩ := runF_len p
  refine ⟨T.G, F, ι, st, vs, d, S, r, h1, h2, ?_⟩
  revert p
  cases runF P n i vs st with
  | ok v s => exact fun p => p
  | er c fs s => exact fun p => p
  | no => exact fun p => p
theorem de_callk0 {P : Pg} {n k i : Nat} {ks : List Str} {pm : List Nat} {f : Addr} {fd : FuncData} {ps : List Str} {b : Ex} (hF : FnG X.prog X.w X.K X.mg X.base k f fd ps (spOf T P n i)) (hr : Room k X.A) (hG : X.A.guards = some []) (hg : Gl X x) (hm : X.mg x = some (.ref f)) (hk : PySem.W.keepIn X.K (.ref f) = true) (hb : KSig X.K fd ps 0 ks pm) (tk : Takes X W)
    (hkw : DK X T W kws (evalL (kitOf P n) b)) (hall : (backToKw pos (keywordEach kws X.env)).all (·.1.isSome) = true) (hks : (backToKw pos (keywordEach kws X.env)).filterMap (·.1) = ks)
    (hdb : (x == ("__debug__" : Str)) = false) (hpl : ((backTo pos (starEach [] X.env)).any (·.1) || (backToKw pos (keywordEach kws X.env)).any (·.1.isNone)) = false) :
    DE X T W (.Call (.Name x p) [] kws pos) (evalX (kitOf P n) (.callk i 0 ks pm .nil b)) :=
  pe_imp (pe_callGK0 (E := WE W) hF hr hG hg hm hk hb (passAt tk) hkw hall hks hdb hpl) fun σ H Q ⟨F, ι, env, st, S, E, q⟩ => by
    rw [evalX, evalL] at q
    simp only [R.bind_ok] at q
    refine tEvG.imp (ev_go S E (PostG.bind (RA := RL T) q)) fun xs H1 ⟨F1, ι1, vs, st1, M, p1⟩ => ?_
    split at p1
    · rename_i hl
      exact ⟨M.rel.length.symm.trans hl.2, sp_go M.sim (permL_rel M.rel pm) p1⟩
    · exact p1.elim
theorem de_callk {P : Pg} {n k i m : Nat} {ks : List Str} {pm : List Nat} {f : Addr} {fd : FuncData} {ps : List Str} {a b : Ex} (hF : FnG X.prog X.w X.K X.mg X.base k f fd ps (spOf T P n i)) (hr : Room k X.A) (hG : X.A.guards = some []) (hg : Gl X x) (hm : X.mg x = some (.ref f)) (hk : PySem.W.keepIn X.K (.ref f) = true) (hb : KSig X.K fd ps m ks pm) (tk : Takes X W)
    (ha : DA X T W (e :: es) (evalL (kitOf P n) a)) (hkw : DK X T W kws (evalL (kitOf P n) b)) (hall : (backToKw pos (keywordEach kws X.env)).all (·.1.isSome) = true) (hks : (backToKw pos (keywordEach kws X.env)).filterMap (·.1) = ks)
    (hdb : (x == ("__debug__" : Str)) = false) (he : starEach (e :: es) X.env = (false, eval e X.env) :: starEach es X.env) (hpl : ((backTo pos (starEach (e :: es) X.env)).any (·.1) || (backToKw pos (keywordEach kws X.env)).any (·.1.isNone)) = false) :
    DE X T W (.Call (.Name x p) (e :: es) kws pos) (evalX (kitOf P n) (.callk i m ks pm a b)) :=
  pe_imp (pe_callGK (E := WE W) hF hr hG hg hm hk hb (passAt tk) ha hkw hall hks hdb he hpl) fun σ H Q ⟨F, ι, env, st, S, E, q⟩ => by
    rw [evalX] at q
    refine tEvG.imp (ev_go S E (PostG.bind (RA := RL T) q)) fun xs H1 ⟨F1, ι1, vs, st1, M, p1⟩ => ?_
    refine tEvG.imp (ev_go M.sim (E.up M.nx M.le) (PostG.bind (RA := RL T) p1)) fun ys H2 ⟨F2, ι2, ws, st2, M2, p2⟩ => ?_
    split at p2
    · rename_i hl
      exact ⟨M.rel.length.symm.trans hl.1, M2.rel.length.symm.trans hl.2, sp_go M2.sim (permL_rel ((M.rel.up M2.nx M2.le).append M2.rel) pm) p2⟩
    · exact p2.elim
theorem kw_ok : ∀ {kws : List Keyword} {ks : List Str}, kws.map (·.arg) = ks.map some → (backToKw pos (keywordEach kws X.env)).all (·.1.isSome) = true ∧ (backToKw pos (keywordEach kws X.env)).filterMap (·.1) = ks ∧ (backToKw pos (keywordEach kws X.env)).any (·.1.isNone) = false
  | [], [], _ => ⟨rfl, rfl, rfl⟩
  | ⟨nm, e, kp⟩ :: kws, k :: ks, h => by
    have h1 : nm = some k ∧ kws.map (·.arg) = ks.map some := by simpa using h
    obtain ⟨rfl, h1⟩ := h1
    obtain ⟨a, b, c⟩ := kw_ok (kws := kws) (ks := ks) h1
    have z : backToKw pos (keywordEach (⟨some k, e, kp⟩ :: kws) X.env) = (some k, (do let v ← eval e X.env; standAt pos; pure v)) :: backToKw pos (keywordEach kws X.env) := rfl
    rw [z, List.all_cons, List.filterMap_cons, List.any_cons, a, b, c]
    exact ⟨rfl, rfl, rfl⟩
  | [], _ :: _, h => by simp at h
  | _ :: _, [], h => by simp at h
theorem bindV_mkT {st : Store} {is : List Nat} {vs : List Val} {env : Env} (h : is.length ≠ 1) (hl : vs.length = is.length) : bindV st is (mkT vs) env = some ((is.zip vs).foldl (fun e q => e.set q.1 (some q.2)) env) := by
  unfold bindV
  split
  · exact absurd rfl h
  · unfold mkT
    cases q : unPs vs with
    | none =>
      simp only [see]
      rw [if_pos hl]
    | some ds =>
      have e : vs = ds.map .p := by
        clear hl
        induction vs generalizing ds with
        | nil => unfold unPs at q; cases q; rfl
        | cons v vs ih =>
          unfold unPs at q
          cases v with
          | p d =>
            simp only [unP] at q
            cases z : unPs vs with
            | none => rw [z] at q; cases q
            | some es => rw [z] at q; cases q; rw [ih es z]; rfl
          | r k => cases q
          | t xs => cases q
          | l xs => cases q
          | x c fs => cases q
      subst e
      simp only [see]
      rw [if_pos (by simpa using hl)]
end
section
variable {X : Cx} {T : Tb} {W : L2.WX} {Kt : Kit} {fl : Nat → List Str} {i j l : Nat} {x y z : Str} {a b c : Expr} {px py pz pt pos : Pos} {kt k2 : Nat} {pt2 : Pos} {es : Ex}
theorem unPs_eq : ∀ {vs : List Val} {ds : List PyData}, unPs vs = some ds → vs = ds.map .p
  | [], _, h => by unfold unPs at h; cases h; rfl
  | .p d :: vs, _, h => by
    unfold unPs at h
    simp only [unP] at h
    cases z : unPs vs with
    | none => rw [z] at h; cases h
    | some es => rw [z] at h; cases h; rw [unPs_eq z]; rfl
  | .r _ :: _, _, h => by unfold unPs at h; cases h
  | .t _ :: _, _, h => by unfold unPs at h; cases h
  | .l _ :: _, _, h => by unfold unPs at h; cases h
  | .x _ _ :: _, _, h => by unfold unPs at h; cases h
theorem bindV_len {st : Store} {is : List Nat} {vs : List Val} {env env1 : Env} (h : is.length ≠ 1) (hb : bindV st is (mkT vs) env = some env1) : vs.length = is.length := by
  unfold bindV at hb
  split at hb
  · exact absurd rfl h
  · unfold mkT at hb
    cases hd : unPs vs with
    | none =>
      rw [hd] at hb
      simp only [see] at hb
      split at hb
      · assumption
      · cases hb
    | some ds =>
      rw [hd] at hb
      simp only [see] at hb
      split at hb
      · rw [unPs_eq hd]; simpa using ‹_›
      · cases hb
theorem par_post {F : Hp} {ι : Nat → Addr} {n : Nat} {is : List Nat} {env : Env} {st : Store} {D : Ends} (p : PostS T W F ι n (execS Kt fl (.asg (.t is) (.tup es)) env st) D) :
    PostS T W F ι n ((evalL Kt es env st).fl env fun vs s1 => if vs.length ≤ SZ then (match bindV s1 is (mkT vs) env with | some env1 => Fl.nx env1 s1 | none => .no) else .no) D := by
  rw [execS, evalX] at p
  revert p
  cases evalL Kt es env st with
  | no => exact fun p => p
  | er c fs s => exact fun p => p
  | ok vs s =>
    simp only [R.bind_ok, R.fl_ok]
    by_cases h : vs.length ≤ SZ
    · rw [if_pos h, if_pos h]; exact fun p => p
    · rw [if_neg h, if_neg h]; exact fun p => p
theorem ds_par2 (hc : X.calm = true) (hN : X.N.Nodup) (hi : X.N[i]? = some x) (hj : X.N[j]? = some y) (hij : i ≠ j)
    (hx : X.env.scope.names.lookup x = some .local) (hy : X.env.scope.names.lookup y = some .local) (h : DA X T W [a, b] (evalL Kt es))
    (hw : swappedStores [.Tuple [.Name x px, .Name y py] kt pt] (.Tuple [a, b] k2 pt2) X.env = pure (some [x, y])) :
    DS X T W (.Assign [.Tuple [.Name x px, .Name y py] kt pt] (.Tuple [a, b] k2 pt2) pos) (execS Kt fl (.asg (.t [i, j]) (.tup es))) :=
  ps_imp (ps_par hc hN hi hj hij hx hy h hw) fun D σ H ⟨F, ι, env, st, S, E, p⟩ => by
    refine ev_go (f := evalL Kt es) S E ((fl_bind (RA := RL T) E (par_post p)).imp fun ys H1 ⟨F1, ι1, vs, st1, M, E1, q⟩ => ?_)
    split at q
    · split at q
      · rename_i env1 hb
        have hl := bindV_len (by simp) hb
        rw [bindV_mkT (by simp) hl] at hb
        cases hb
        match vs, ys, M.rel, hl with
        | [v, w], _, .cons r1 (.cons r2 .nil), _ =>
          exact ⟨_, _, rfl, q F1 ι1 H1 _ (Next.refl _ _ _) (Nat.le_refl _) M.sim (sets_env (is := [i, j]) (vs := [v, w]) E1.w (.cons r1 (.cons r2 .nil)) rfl).1⟩
      · exact q.elim
    · exact q.elim
theorem ds_par3 (hc : X.calm = true) (hN : X.N.Nodup) (hi : X.N[i]? = some x) (hj : X.N[j]? = some y) (hz : X.N[l]? = some z) (hij : i ≠ j) (hil : i ≠ l) (hjl : j ≠ l)
    (hx : X.env.scope.names.lookup x = some .local) (hy : X.env.scope.names.lookup y = some .local) (hz' : X.env.scope.names.lookup z = some .local) (h : DA X T W [a, b, c] (evalL Kt es))
    (hw : swappedStores [.Tuple [.Name x px, .Name y py, .Name z pz] kt pt] (.Tuple [a, b, c] k2 pt2) X.env = pure (some [x, y, z])) :
    DS X T W (.Assign [.Tuple [.Name x px, .Name y py, .Name z pz] kt pt] (.Tuple [a, b, c] k2 pt2) pos) (execS Kt fl (.asg (.t [i, j, l]) (.tup es))) :=
  ps_imp (ps_par3 hc hN hi hj hz hij hil hjl hx hy hz' h hw) fun D σ H ⟨F, ι, env, st, S, E, p⟩ => by
    refine ev_go (f := evalL Kt es) S E ((fl_bind (RA := RL T) E (par_post p)).imp fun ys H1 ⟨F1, ι1, vs, st1, M, E1, q⟩ => ?_)
    split at q
    · split at q
      · rename_i env1 hb
        have hl := bindV_len (by simp) hb
        rw [bindV_mkT (by simp) hl] at hb
        cases hb
        match vs, ys, M.rel, hl with
        | [v, w, u], _, .cons r1 (.cons r2 (.cons r3 .nil)), _ =>
          exact ⟨_, _, _, rfl, q F1 ι1 H1 _ (Next.refl _ _ _) (Nat.le_refl _) M.sim (sets_env (is := [i, j, l]) (vs := [v, w, u]) E1.w (.cons r1 (.cons r2 (.cons r3 .nil))) rfl).1⟩
      · exact q.elim
    · exact q.elim
end
end Vm
end

section
/-! V33: what is known of a piece of code; the text of an expression against its tree. -/
namespace Vm
open PySem L2 PySem.Spec PyProof.Rows

theorem dt_ing {X : Cx} {T : Tb} {W : L2.WX} {Kt : Kit} {e1 : Expr} {pos p : Pos} {x : Str} {neg : Bool} {a : Ex} {g : Nat} {q : Addr} {xs : List V} {ds : List PyData} (hK : X.K = T.K) (h1 : DE X T W e1 (evalX Kt a)) (hg : Gl X x) (hm : X.mg x = some (.ref q)) (hd : (x == ("__debug__" : Str)) = false) (hT : ∀ H, SqT X.K H q xs) (hD : DatL T.K (fun _ => none) xs ds) (hc : Kt.con g = some (.tuple ds))
    (hmk : behindInMarks (if neg then .NotIn else .In) (.Name x p) = false) :
    DT X T W (.Compare e1 [if neg then .NotIn else .In] [.Name x p] pos) (evalT Kt (.cons (.ing neg a g) .nil)) := by
  have h2 := pe_glob (pos := p) hg hm (show RelV (.ref q) (.ref q) from rfl) hd
  have key : OpR X (compareOp (if neg then .NotIn else .In)) (fun x y H Q => y = .ref q ∧ rIng T neg ds x H Q) := opr_by fun x y H Q h => by
    obtain ⟨rfl, F, ι, st, a, d, S, r, e, f1, f2, k⟩ := h
    have s1 := see_seen S r e
    have dx := s1.flat f1
    obtain ⟨k1, k2⟩ := inV_of dx f1 (hD.up (F := fun _ => none) (H := F) fun a o h => by cases h) f2
    cases neg with
    | false => exact ⟨_, op_in_seq, q, xs, rfl, .inr (hT H), flat_dat dx f1, k1, by rw [k2]; exact k⟩
    | true => exact ⟨_, op_notIn_seq, q, xs, rfl, .inr (hT H), flat_dat dx f1, k1, by rw [k2]; exact k⟩
  refine pt_imp (pt_cmpR (pos := pos) key h1 h2 hmk) fun σ H Q ⟨F, ι, env, st, S, E, p⟩ => ?_
  rw [evalT, evalX] at p
  rw [bind_bind] at p
  refine tEvG.imp (ev_go S E (PostG.bind (RA := RV T) p)) fun x H1 ⟨F1, ι1, v, st1, M, p1⟩ => ?_
  rw [hc] at p1
  split at p1
  · rename_i d ds' q1 q2
    cases q2
    split at p1
    · rename_i hh
      exact ⟨rfl, F1, ι1, st1, v, d, M.sim, M.rel, q1, hh.1, hh.2, _, rfl, p1.now (Next.refl _ _ _) (Nat.le_refl _) M.sim rfl⟩
    · exact p1.elim
  · exact p1.elim

structure MC where
  N : List Str
  fn : List (Str × Nat)
  co : List (Str × Nat)
  ct : List (Str × Nat)
  ow : List (Str × Nat)
  no : List Str
  kw : List (Nat × Nat × List Str × List Nat)
/-- what is known of the context -/
structure Kn (T : Tb) (P : Pg) (n : Nat) (M : MC) (X : Cx) : Prop where
  N : X.N = M.N
  nd : M.N.Nodup
  calm : X.calm = true
  K : X.K = T.K
  gd : X.A.guards = some []
  hu : X.A.units + 100 < cLine
  fn : ∀ x i, M.fn.lookup x = some i → ∃ k f fd ps, FnG X.prog X.w X.K X.mg X.base k f fd ps (spOf T P n i) ∧ Room k X.A ∧ X.mg x = some (.ref f) ∧ PySem.W.keepIn X.K (.ref f) = true ∧ Binds X.K fd ps [] ∧
    ∀ m ks pm, (i, m, ks, pm) ∈ M.kw → KSig X.K fd ps m ks pm
  co : ∀ x g, M.co.lookup x = some g → ∃ u v d, X.mg x = some u ∧ RelV v u ∧ Dat T.K (fun _ => none) v d ∧ P.con g = some d
  ct : ∀ x g, M.ct.lookup x = some g → ∃ q xs ds, X.mg x = some (.ref q) ∧ (∀ H, SqT X.K H q xs) ∧ DatL T.K (fun _ => none) xs ds ∧ P.con g = some (.tuple ds)
  no : ∀ x, M.no.contains x = true → X.mg x = none
  ow : OwnK X T (kitOf P n) T.exA
  own : ∀ x c, M.ow.lookup x = some c → X.mg x = some (.ref (T.exA c))
theorem FnG.le {Pr : Program} {w : World} {K : PySem.W.Frag} {mg : Str → Option Value} {base : Heap} {k : Nat} {f : Addr} {fd : FuncData} {ps : List Str} {sp sp' : Sp} (F : FnG Pr w K mg base k f fd ps sp) (h : ∀ vs H Q E, sp' vs H Q E → sp vs H Q E) : FnG Pr w K mg base k f fd ps sp' :=
  ⟨fun vs H Q E q => F.len vs H Q E (h _ _ _ _ q), fun A outer s H args us vs Q E a b c d e q => F.run A outer s H args us vs Q E a b c d e (h _ _ _ _ q)⟩
theorem spOf_wG {T : Tb} {P : Pg} {n i : Nat} (G : Hp) (vs : List V) (H : Hp) (Q : VK) (E : XK) (q : spOf (T.wG G) P n i vs H Q E) : spOf T P n i vs H Q E := by
  obtain ⟨G2, F, ι, st, ws, d, S, r, h1, h2, p⟩ := q
  have st' : SameT T (T.wG G) := SameT.wG T G
  refine ⟨G2, F, ι, st, ws, d, S, r.to st'.symm, h1, h2, ?_⟩
  revert p
  cases runF P n i ws st with
  | ok v s => exact fun p F' ι' H' x N hn S' r' => p F' ι' H' x N hn S' (VRel.to r' st')
  | er c fs s => exact fun p F' ι' H' cls d N hn S' x => p F' ι' H' cls d N hn S' ⟨x.cls, x.dct⟩
  | no => exact fun p => p
theorem Kn.wG {T : Tb} {P : Pg} {n : Nat} {M : MC} {X : Cx} (k : Kn T P n M X) (G : Hp) : Kn (T.wG G) P n M X :=
  ⟨k.N, k.nd, k.calm, k.K, k.gd, k.hu, fun x i h => let ⟨a, f, fd, ps, h1, h2⟩ := k.fn x i h; ⟨a, f, fd, ps, h1.le (spOf_wG G), h2⟩, k.co, k.ct, k.no, ⟨k.ow.x, k.ow.o⟩, k.own⟩
theorem Kn.blk {T : Tb} {P : Pg} {n : Nat} {M : MC} {X : Cx} (k : Kn T P n M X) (s : Shared) (H : Hp) (scope : Scope) (C : Addr) (cl : List (Str × Addr)) (fp : List Addr) : Kn T P n M (X.blk s H scope (compEnvC scope cl C X.env) fp) :=
  ⟨k.N, k.nd, k.calm, k.K, k.gd, k.hu, k.fn, k.co, k.ct, k.no, ⟨k.ow.x, k.ow.o⟩, k.own⟩
theorem takes_blk {X : Cx} {s : Shared} {H : Hp} {scope : Scope} {env : PySem.Env} {fp : List Addr} : Takes (X.blk s H scope env fp) W0 := fun u s' ⟨_, _, _, _, _, _, _, _, _, _, _, _, _, _, _, _, w⟩ => w.elim

/-! ### looks at the text -/
def okN (x : Str) : Bool := !(x == ("__debug__" : Str)) && !(x == ("__classdict__" : Str)) && !(x == ("__name__" : Str))
theorem okN_1 {x : Str} (h : okN x = true) : (x == ("__debug__" : Str)) = false := by
  unfold okN at h
  simp only [Bool.and_eq_true, Bool.not_eq_true'] at h
  exact h.1.1
theorem okN_2 {x : Str} (h : okN x = true) : (x == ("__classdict__" : Str)) = false := by
  unfold okN at h
  simp only [Bool.and_eq_true, Bool.not_eq_true'] at h
  exact h.1.2
theorem okN_3 {x : Str} (h : okN x = true) : x ≠ "__name__" := by
  unfold okN at h
  simp only [Bool.and_eq_true, Bool.not_eq_true'] at h
  intro e
  subst e
  have := h.2
  simp at this
def visB (sc : Scope) (x : Str) : Bool := match sc.names.lookup x with
  | some .local => true
  | some .cell => true
  | some .free => true
  | _ => false
theorem visB_ok {sc : Scope} {x : Str} (h : visB sc x = true) : Vis sc x := by
  unfold visB at h
  unfold Vis
  split at h
  · exact .inl (by assumption)
  · exact .inr (.inl (by assumption))
  · exact .inr (.inr (by assumption))
  · cases h
def glB (sc : Scope) (x : Str) : Bool := match sc.names.lookup x with
  | some .globalImplicit => true
  | _ => false
theorem glB_ok {X : Cx} {x : Str} (h : glB X.env.scope x = true) : Gl X x := by
  unfold glB at h
  unfold Gl Env.kindOf
  split at h
  · assumption
  · cases h
/-- a local name, or a cell of the def's own -/
def locB (sc : Scope) (x : Str) : Bool := match sc.names.lookup x with
  | some .local => true
  | some .cell => true
  | _ => false
theorem locB_ok {sc : Scope} {x : Str} (h : locB sc x = true) : L2.Loc sc x := by
  unfold locB at h
  unfold L2.Loc
  split at h
  · exact .inl (by assumption)
  · exact .inr (by assumption)
  · cases h
/-- a name that the module holds / does not hold -/
def biN : Bi → Option (String × Bool)
  | .len => some ("len", false)
  | .abs => some ("abs", false)
  | .all => some ("all", false)
  | .any => some ("any", false)
  | .int => some ("int", true)
  | .str => some ("str", true)
  | .list => some ("list", true)
  | .tuple => some ("tuple", true)
  | .min2 => some ("min", false)
  | .max2 => some ("max", false)
  | .sorted => some ("sorted", false)
  | .repr => some ("repr", false)
  | .sum => some ("sum", false)
  | _ => none
theorem bi_rule {X : Cx} {T : Tb} (hc : X.calm = true) (hK : X.K = T.K) (hG : X.A.guards = some []) (hu : X.A.units + 100 < cLine) : ∀ {b : Bi} {id : String} {ty : Bool}, biN b = some (id, ty) →
    (ty = false ∧ CallR X (.builtin id) (rBi T b) ∧ bootBuiltins id = some (.builtin id)) ∨ (ty = true ∧ CallR X (.type id) (rBi T b) ∧ bootBuiltins id = some (.type id)) := by
  intro b id ty h
  cases b <;> (first | (cases h; done) | skip) <;> cases h
  · exact .inl ⟨rfl, cb_len, by decide +kernel⟩
  · exact .inl ⟨rfl, cb_abs, by decide +kernel⟩
  · exact .inl ⟨rfl, cb_all hc hK, by decide +kernel⟩
  · exact .inl ⟨rfl, cb_any hc hK, by decide +kernel⟩
  · exact .inr ⟨rfl, cb_int, by decide +kernel⟩
  · exact .inr ⟨rfl, cb_str, by decide +kernel⟩
  · exact .inr ⟨rfl, cb_list hc, by decide +kernel⟩
  · exact .inr ⟨rfl, cb_tuple, by decide +kernel⟩
  · exact .inl ⟨rfl, cb_min hc, by decide +kernel⟩
  · exact .inl ⟨rfl, cb_max hc, by decide +kernel⟩
  · exact .inl ⟨rfl, cb_sorted hc, by decide +kernel⟩
  · exact .inl ⟨rfl, cb_repr hG hu, by decide +kernel⟩
  · exact .inl ⟨rfl, cb_sum hc, by decide +kernel⟩
def opBq : BinO → Operator → Bool
  | .add, .Add => true
  | .sub, .Sub => true
  | .mul, .Mult => true
  | .fdiv, .FloorDiv => true
  | .mod, .Mod => true
  | .pow, .Pow => true
  | _, _ => false
theorem opBq_ok {o : BinO} {p : Operator} (h : opBq o p = true) : p = opB o := by
  cases o <;> cases p <;> first | rfl | cases h
def opCq : CmpO → CmpOp → Bool
  | .eq, .Eq => true
  | .ne, .NotEq => true
  | .lt, .Lt => true
  | .le, .LtE => true
  | .gt, .Gt => true
  | .ge, .GtE => true
  | .is, .Is => true
  | .isNot, .IsNot => true
  | .isin, .In => true
  | .notin, .NotIn => true
  | _, _ => false
theorem opCq_ok {o : CmpO} {p : CmpOp} (h : opCq o p = true) : p = opC o := by
  cases o <;> cases p <;> first | rfl | cases h
def conB : PyData → Const → Bool
  | .none, .none => true
  | .bool b, .bool c => b == c
  | .int i, .int j => i == j
  | .str x, .str y => x == y
  | _, _ => false
/-- a class as isinstance is asked of it -/
def tyB (M : MC) (sc : Scope) (t : Ty) (e : Expr) : Bool := match t, e with
  | .own c, .Name x _ => glB sc x && okN x && (M.ow.lookup x == some c)
  | t, .Name x _ => isB t && glB sc x && okN x && M.no.contains x && (x == (tyS t : Str)) && (bootBuiltins x == some (.type (tyS t)))
  | _, _ => false
def tysB (M : MC) (sc : Scope) : List Ty → List Expr → Bool
  | [], [] => true
  | t :: ts, e :: es => tyB M sc t e && nStar e && tysB M sc ts es
  | _, _ => false
end Vm
end

section
/-! V34: the text of an expression against its tree. -/
namespace Vm
open PySem L2 PySem.Spec PyProof.Rows

inductive Src where
  | x (e : Expr)
  | t (e : Expr)
  | l (es : List Expr)
  | k (kws : List Keyword)
  | o (e : Option Expr)
  | i (tg e : Expr)
  | d (ks : List (Option Expr)) (vs : List Expr)
  | dv (v : Expr) (ks : List (Option Expr)) (vs : List Expr)
  | c (ifs : List Expr)
def chk (s : Src) (f : Expr → Bool) : Bool := match s with
  | .x e => f e
  | .t e => f e && nTest e
  | _ => false
def isNil : Ex → Bool
  | .nil => true
  | _ => false
theorem isNil_ok {a : Ex} (h : isNil a = true) : a = .nil := by cases a <;> first | rfl | cases h
def isZero : Ex → Bool
  | .con (.int 0) => true
  | _ => false
theorem isZero_ok {a : Ex} (h : isZero a = true) : a = .con (.int 0) := by
  unfold isZero at h
  split at h
  · rfl
  · cases h
def ownOf (N : List Str) (is : List Nat) : List (Str × Nat) := is.filterMap fun i => (N[i]?).map fun x => (x, i)
/-- targets: names -/
def nmB (N : List Str) (sc : Scope) (e : Expr) (i : Nat) : Bool := match e with
  | .Name x _ => (N[i]? == some x) && locB sc x
  | _ => false
def nmsB (N : List Str) (sc : Scope) : List Expr → List Nat → Bool
  | [], [] => true
  | e :: es, i :: is => nmB N sc e i && nmsB N sc es is
  | _, _ => false
def tgB (N : List Str) (sc : Scope) (e : Expr) (is : List Nat) : Bool := match e with
  | .Tuple es _ _ => decide (is.length ≠ 1) && nmsB N sc es is
  | e => match is with
    | [i] => nmB N sc e i
    | _ => false
def isTup : Expr → Bool
  | .Tuple .. => true
  | _ => false
def mS (M : MC) : Ex → Scope → Src → Bool
  | .var i, sc, s => chk s fun e => match e with
    | .Name x _ => (M.N[i]? == some x) && visB sc x && okN x
    | _ => false
  | .con d, sc, s => chk s fun e => match e with
    | .Constant c _ _ => conB d c
    | _ => false
  | .glo g, sc, s => chk s fun e => match e with
    | .Name x _ => glB sc x && okN x && (M.co.lookup x == some g)
    | _ => false
  | .bin o a b, sc, s => chk s fun e => match e with
    | .BinOp e1 p e2 _ => opBq o p && mS M a sc (.x e1) && mS M b sc (.x e2)
    | _ => false
  | .neg a, sc, s => chk s fun e => match e with
    | .UnaryOp .USub e1 _ => mS M a sc (.x e1)
    | _ => false
  | .and a b, sc, s => match s with
    | .x (.BoolOp .And (e1 :: e2 :: rest) pos) => mS M a sc (.x e1) && mS M b sc (.x (if rest.isEmpty then e2 else .BoolOp .And (e2 :: rest) pos))
    | .t (.BoolOp .And (e1 :: e2 :: rest) pos) => mS M a sc (.t e1) && mS M b sc (.t (if rest.isEmpty then e2 else .BoolOp .And (e2 :: rest) pos))
    | _ => false
  | .or a b, sc, s => match s with
    | .x (.BoolOp .Or (e1 :: e2 :: rest) pos) => mS M a sc (.x e1) && mS M b sc (.x (if rest.isEmpty then e2 else .BoolOp .Or (e2 :: rest) pos))
    | .t (.BoolOp .Or (e1 :: e2 :: rest) pos) => mS M a sc (.t e1) && mS M b sc (.t (if rest.isEmpty then e2 else .BoolOp .Or (e2 :: rest) pos))
    | _ => false
  | .not a, sc, s => match s with
    | .x (.UnaryOp .Not e1 _) => mS M a sc (.x e1)
    | .t (.UnaryOp .Not e1 _) => mS M a sc (.t e1)
    | _ => false
  | .ite c a b, sc, s => match s with
    | .x (.IfExp e1 e2 e3 _) => mS M c sc (.t e1) && mS M a sc (.x e2) && mS M b sc (.x e3)
    | _ => false
  | .cmp o a b, sc, s => match s with
    | .x (.Compare e1 [p] [e2] _) => opCq o p && !(behindInMarks p e2) && mS M a sc (.x e1) && mS M b sc (.x e2)
    | .t (.Compare e1 [p] [e2] _) => opCq o p && !(behindInMarks p e2) && mS M a sc (.x e1) && mS M b sc (.x e2)
    | _ => false
  | .chn o o' a b c, sc, s => match s with
    | .x (.Compare e1 [p, p'] [e2, e3] _) => opCq o p && opCq o' p' && !(lastMarks [p, p'] [e2, e3]) && mS M a sc (.x e1) && mS M b sc (.x e2) && mS M c sc (.x e3)
    | .t (.Compare e1 [p, p'] [e2, e3] _) => opCq o p && opCq o' p' && !(lastMarks [p, p'] [e2, e3]) && mS M a sc (.x e1) && mS M b sc (.x e2) && mS M c sc (.x e3)
    | _ => false
  | .tup es, sc, s => chk s fun e => match e with
    | .Tuple xs _ _ => mS M es sc (.l xs)
    | _ => false
  | .lst f es, sc, s => chk s fun e => match e with
    | .List xs _ => mS M es sc (.l xs)
    | _ => false
  | .dic f es, sc, s => chk s fun e => match e with
    | .Dict ks vs _ => if ks.isEmpty && vs.isEmpty then isNil es else mS M es sc (.d ks vs) && evenL es && ks.all (·.isSome) && decide (ks.length = vs.length) && !ks.isEmpty && decide (ks.length ≤ 15)
    | _ => false
  | .idx a i, sc, s => chk s fun e => match e with
    | .Subscript e1 e2 _ => nSlice e2 && mS M a sc (.x e1) && mS M i sc (.x e2)
    | _ => false
  | .slc a lo hi, sc, s => chk s fun e => match e with
    | .Subscript e1 (.Slice l h none _) _ => mS M a sc (.x e1) && mS M lo sc (.o l) && mS M hi sc (.o h)
    | _ => false
  | .call f es, sc, s => chk s fun e => match e with
    | .Call (.Name x _) (e :: es') [] _ => glB sc x && okN x && (M.fn.lookup x == some f) && (e :: es').all nStar && mS M es sc (.l (e :: es'))
    | _ => false
  | .callk f n ks pm a b, sc, s => chk s fun e => match e with
    | .Call (.Name x _) es kws _ => glB sc x && okN x && (M.fn.lookup x == some f) && M.kw.contains (f, n, ks, pm) && decide (kws.map (·.arg) = ks.map some) && es.all nStar && mS M b sc (.k kws) && (if es.isEmpty then isNil a && n == 0 else mS M a sc (.l es))
    | _ => false
  | .bi b es, sc, s => chk s fun e => match e with
    | .Call (.Name x _) (e :: es') [] _ => (match biN b with
      | some (id, _) => x == (id : Str)
      | none => false) && glB sc x && okN x && M.no.contains x && (e :: es').all nStar && mS M es sc (.l (e :: es'))
    | _ => false
  | .new f b es, sc, s => chk s fun e => match e with
    | .Call (.Name x _) (e :: es') [] _ => (match b with
      | .list => x == ("list" : Str)
      | .sorted => x == ("sorted" : Str)
      | _ => false) && glB sc x && okN x && M.no.contains x && (e :: es').all nStar && mS M es sc (.l (e :: es'))
    | _ => false
  | .cat f a b, sc, s => chk s fun e => match e with
    | .BinOp e1 .Add e2 _ => mS M a sc (.x e1) && mS M b sc (.x e2)
    | _ => false
  | .cut f a lo hi, sc, s => chk s fun e => match e with
    | .Subscript e1 (.Slice l h none _) _ => mS M a sc (.x e1) && mS M lo sc (.o l) && mS M hi sc (.o h)
    | _ => false
  | .mth m a es, sc, s => chk s fun e => match e with
    | .Call (.Attribute o nm apos) es' [] cpos => covM m && (nm == mName m) && nBase o && (apos.endLine == cpos.line) && mS M a sc (.x o) && (if es'.isEmpty then isNil es else es'.all nStar && decide (es'.length < 30) && mS M es sc (.l es'))
    | _ => false
  | .isi a ts, sc, s => chk s fun e => match e with
    | .Call (.Name x _) [e1, e2] [] _ => (x == ("isinstance" : Str)) && glB sc x && M.no.contains x && nStar e1 && nStar e2 && mS M a sc (.x e1) && (match e2 with
      | .Tuple es _ _ => tysB M sc ts es && decide (ts.length ≤ SZ) && !ts.isEmpty
      | e2 => match ts with
        | [t] => tyB M sc t e2
        | _ => false)
    | _ => false
  | .lc f is it c e, sc, s => chk s fun ex => match ex with
    | .ListComp elt [⟨tg, iter, ifs, 0⟩] scope _ => nSet iter && blkC M.N sc scope (ownOf M.N is) && is.all (fun i => decide (i < M.N.length)) && tgB M.N scope tg is && mS M it sc (.i tg iter) && mS M c (relS scope sc) (.c ifs) && mS M e (relS scope sc) (.x elt)
    | _ => false
  | .ing neg a g, sc, s => match s with
    | .x (.Compare e1 [p] [.Name x np] _) => opCq (if neg then .notin else .isin) p && glB sc x && okN x && (M.ct.lookup x == some g) && !(behindInMarks p (.Name x np)) && mS M a sc (.x e1)
    | .t (.Compare e1 [p] [.Name x np] _) => opCq (if neg then .notin else .isin) p && glB sc x && okN x && (M.ct.lookup x == some g) && !(behindInMarks p (.Name x np)) && mS M a sc (.x e1)
    | _ => false
  | .bad, sc, s => match s with
    | .x _ => true
    | _ => false
  | .nil, sc, s => match s with
    | .l [] => true
    | .k [] => true
    | .o none => true
    | .c [] => true
    | .d [] [] => true
    | _ => false
  | .cons a b, sc, s => match s with
    | .l (e :: es) => nStar e && mS M a sc (.x e) && mS M b sc (.l es)
    | .k (⟨_, e, _⟩ :: kws) => mS M a sc (.x e) && mS M b sc (.k kws)
    | .o (some e) => mS M a sc (.x e)
    | .c [e] => mS M a sc (.t e)
    | .i tg e => mS M a sc (.x e)
    | .d (some k :: ks) (v :: vs) => mS M a sc (.x k) && mS M b sc (.dv v ks vs)
    | .dv v ks vs => mS M a sc (.x v) && mS M b sc (.d ks vs)
    | _ => false
  | .rng a b, sc, s => match s with
    | .i tg (.Call (.Name x _) es [] _) => (x == ("range" : Str)) && glB sc x && M.no.contains x && (match es with
      | [e] => isZero a && nStar e && mS M b sc (.x e)
      | [e1, e2] => nStar e1 && nStar e2 && mS M a sc (.x e1) && mS M b sc (.x e2)
      | _ => false)
    | _ => false
  | .enu a, sc, s => match s with
    | .i tg (.Call (.Name x _) [e] [] _) => isTup tg && (x == ("enumerate" : Str)) && glB sc x && M.no.contains x && nStar e && mS M a sc (.x e)
    | _ => false
  | .zip a b, sc, s => match s with
    | .i tg (.Call (.Name x _) [e1, e2] [] _) => isTup tg && (x == ("zip" : Str)) && glB sc x && M.no.contains x && nStar e1 && nStar e2 && mS M a sc (.x e1) && mS M b sc (.x e2)
    | _ => false
  | .frz _, _, _ => false
end Vm
end

section
/-! V35: what the look at an expression's text gives. -/
namespace Vm
open PySem L2 PySem.Spec PyProof.Rows

section
variable {P : Pg} {n : Nat} {M : MC}
def isBo : Expr → Bool
  | .BoolOp .. => true
  | _ => false
def Good (P : Pg) (n : Nat) (M : MC) (a : Ex) (sc : Scope) : Src → Prop
  | .x e => ∀ T X W, Kn T P n M X → X.env.scope = sc → Takes X W → DE X T W e (evalX (kitOf P n) a)
  | .t e => ∀ T X W, Kn T P n M X → X.env.scope = sc → Takes X W → DT X T W e (evalT (kitOf P n) (.cons a .nil)) ∧ (isBo e = true → DW X T W e (evalT (kitOf P n) (.cons a .nil)))
  | .l es => ∀ T X W, Kn T P n M X → X.env.scope = sc → Takes X W → DA X T W es (evalL (kitOf P n) a)
  | .k kws => ∀ T X W, Kn T P n M X → X.env.scope = sc → Takes X W → DK X T W kws (evalL (kitOf P n) a)
  | .o e => ∀ T X W, Kn T P n M X → X.env.scope = sc → Takes X W → DO X T W e (evalO (kitOf P n) a)
  | .i tg e => ∀ T X W, Kn T P n M X → X.env.scope = sc → Takes X W → DI X T W tg e (evalI (kitOf P n) a)
  | .d ks vs => ∀ T X W pos, Kn T P n M X → X.env.scope = sc → Takes X W → PPs X pos ks vs (trsOf T W (kitOf P n) a)
  | .dv v ks vs => ∃ y r, a = .cons y r ∧ (∀ T X W, Kn T P n M X → X.env.scope = sc → Takes X W → DE X T W v (evalX (kitOf P n) y)) ∧ ∀ T X W pos, Kn T P n M X → X.env.scope = sc → Takes X W → PPs X pos ks vs (trsOf T W (kitOf P n) r)
  | .c ifs => ∀ T X W, Kn T P n M X → X.env.scope = sc → Takes X W → DTs X T W ifs (evalT (kitOf P n) a)
theorem chk_good {a : Ex} {sc : Scope} {s : Src} {f : Expr → Bool} (h : chk s f = true) (g : ∀ e, f e = true → ∀ T X W, Kn T P n M X → X.env.scope = sc → Takes X W → DE X T W e (evalX (kitOf P n) a)) : Good P n M a sc s := by
  unfold chk at h
  split at h
  · exact g _ h
  · rw [Bool.and_eq_true] at h
    intro T X W k e t
    refine ⟨dt_plain k.K (g _ h.1 T X W k e t) (test_ok h.2), fun z => ?_⟩
    rename_i ex
    cases ex <;> first | (cases z; done) | exact absurd h.2 (by simp [nTest])
  · cases h
theorem nmB_pg {N : List Str} {sc : Scope} {e : Expr} {i : Nat} {X : Cx} (h : nmB N sc e i = true) (hN : X.N = N) (nd : N.Nodup) (hs : ∀ x, locB sc x = true → L2.Loc X.env.scope x ∧ (X.fn x = true ∨ X.env.scope.names.lookup x = some .local)) : PG X e (gName i) := by
  unfold nmB at h
  split at h
  · rw [Bool.and_eq_true] at h
    obtain ⟨h1, h2⟩ := hs _ h.2
    exact pg_name (by rw [hN]; exact nd) (by rw [hN]; simpa using h.1) h1 h2
  · cases h
theorem nm_star {N : List Str} {sc : Scope} {e : Expr} {i : Nat} (h : nmB N sc e i = true) : nStar e = true := by
  unfold nmB at h
  split at h
  · rfl
  · cases h
theorem nms_pgs {N : List Str} {sc : Scope} {X : Cx} (hN : X.N = N) (nd : N.Nodup) (hs : ∀ x, locB sc x = true → L2.Loc X.env.scope x ∧ (X.fn x = true ∨ X.env.scope.names.lookup x = some .local)) :
    ∀ {es : List Expr} {is : List Nat}, nmsB N sc es is = true → PGs X es (gNs is) ∧ es.length = is.length ∧ es.all nStar = true
  | [], [], _ => ⟨pgs_nil, rfl, rfl⟩
  | e :: es, i :: is, h => by
    unfold nmsB at h
    rw [Bool.and_eq_true] at h
    obtain ⟨h1, h2, h3⟩ := nms_pgs hN nd hs h.2
    have hst := nm_star h.1
    refine ⟨pgs_cons (nmB_pg h.1 hN nd hs) h1 ?_, by simp [h2], by rw [List.all_cons, hst, h3]; rfl⟩
    have z : assignEach (e :: es) X.env = (false, assign e X.env) :: assignEach es X.env := by
      cases e <;> first | rfl | (exact absurd hst (by simp [nStar]))
    rw [z]
    rfl
  | [], _ :: _, h => by cases h
  | _ :: _, [], h => by cases h
theorem tgB_dg {N : List Str} {sc : Scope} {e : Expr} {is : List Nat} {X : Cx} {T : Tb} (h : tgB N sc e is = true) (hN : X.N = N) (nd : N.Nodup) (hK : X.K = T.K) (hc : X.calm = true) (hs : ∀ x, locB sc x = true → L2.Loc X.env.scope x ∧ (X.fn x = true ∨ X.env.scope.names.lookup x = some .local)) : DG X T e is := by
  unfold tgB at h
  split at h
  · rename_i es k pos
    rw [Bool.and_eq_true, decide_eq_true_eq] at h
    obtain ⟨h1, h2, h3⟩ := nms_pgs hN nd hs h.2
    obtain ⟨h4, h5⟩ := each_all (env := X.env) h3
    exact dg_tup hK hc h1 h.1 (h4.trans h2) h5
  · split at h
    · exact dg_name (nmB_pg h hN nd hs)
    · cases h
theorem blk_loc {scope : Scope} {X : Cx} {s : Shared} {H : Hp} {C : Addr} {cl : List (Str × Addr)} {fp : List Addr} : ∀ x, locB scope x = true → L2.Loc (X.blk s H scope (compEnvC scope cl C X.env) fp).env.scope x ∧ ((X.blk s H scope (compEnvC scope cl C X.env) fp).fn x = true ∨ (X.blk s H scope (compEnvC scope cl C X.env) fp).env.scope.names.lookup x = some .local) := fun x h => by
  unfold locB at h
  split at h
  · rename_i q
    have k : (relS scope X.env.scope).names.lookup x = some .local := lookup_relS_keep (by intro z; cases z) q
    exact ⟨.inl k, .inr k⟩
  · rename_i q
    have k : (relS scope X.env.scope).names.lookup x = some .cell := lookup_relS_keep (by intro z; cases z) q
    refine ⟨.inr k, .inl ?_⟩
    show (scope.names.lookup x == some .cell) = true
    rw [q]; rfl
  · cases h
theorem own_1 {N : List Str} {is : List Nat} : ∀ i ∈ (ownOf N is).map (·.2), i ∈ is := fun i h => by
  obtain ⟨q, h1, rfl⟩ := List.mem_map.mp h
  unfold ownOf at h1
  obtain ⟨j, hj, e⟩ := List.mem_filterMap.mp h1
  cases z : N[j]? with
  | none => rw [z] at e; cases e
  | some x => rw [z] at e; cases e; exact hj
theorem own_2 {N : List Str} {is : List Nat} (h : is.all (fun i => decide (i < N.length)) = true) : ∀ i ∈ is, i ∈ (ownOf N is).map (·.2) := fun i hi => by
  have hl : i < N.length := by simpa using List.all_eq_true.mp h i hi
  refine List.mem_map.mpr ⟨(N[i], i), List.mem_filterMap.mpr ⟨i, hi, by simp [hl]⟩, rfl⟩
theorem ty_pe {X : Cx} {T : Tb} {sc : Scope} {t : Ty} {e : Expr} (k : Kn T P n M X) (hs : X.env.scope = sc) (h : tyB M sc t e = true) : PE X e (tV (tyV1 T.exA t)) := by
  unfold tyB at h
  split at h
  · simp only [Bool.and_eq_true] at h
    exact pv_ref (glB_ok (by rw [hs]; exact h.1.1)) (k.own _ _ (by simpa using h.2)) (okN_1 h.1.2)
  · rename_i t' x _ hne
    simp only [Bool.and_eq_true] at h
    have e0 : tyV1 T.exA t = .ty (tyS t) := by
      cases t <;> first | rfl | (exact absurd h.1.1.1.1.1 (by simp [isB]))
    rw [e0]
    have hx : x = (tyS t : Str) := by simpa using h.1.2
    exact pv_ty (glB_ok (by rw [hs]; exact h.1.1.1.1.2)) (k.no _ h.1.1.2) (by simpa using h.2) (okN_3 h.1.1.1.2) (okN_1 h.1.1.1.2)
  · cases h
theorem tys_pe {X : Cx} {T : Tb} {sc : Scope} (k : Kn T P n M X) (hs : X.env.scope = sc) : ∀ {ts : List Ty} {es : List Expr}, tysB M sc ts es = true → PA X es (tVs (ts.map (tyV1 T.exA)))
  | [], [], _ => pvs_nil
  | t :: ts, e :: es, h => by
    unfold tysB at h
    simp only [Bool.and_eq_true] at h
    exact pvs_cons (ty_pe k hs h.1.1) (tys_pe k hs h.2) (star_cons h.1.2)
  | [], _ :: _, h => by cases h
  | _ :: _, [], h => by cases h
end
end Vm
end

section
/-! V36: .. of every expression. -/
namespace Vm
open PySem L2 PySem.Spec PyProof.Rows

section
variable {P : Pg} {n : Nat} {M : MC}
theorem con_de {X : Cx} {T : Tb} {W : L2.WX} {Kt : Kit} {d : PyData} {c : Const} {k : Nat} {pos : Pos} (h : conB d c = true) : DE X T W (.Constant c k pos) (evalX Kt (.con d)) := by
  unfold conB at h
  split at h
  · exact de_non
  · rw [show _ = _ from eq_of_beq h]; exact de_bl
  · rw [show _ = _ from eq_of_beq h]; exact de_int
  · rw [show _ = _ from eq_of_beq h]; exact de_str
  · cases h
theorem mS_ok (a : Ex) : ∀ (sc : Scope) (s : Src), mS M a sc s = true → Good P n M a sc s := by
  induction a with
  | var i =>
    intro sc s h
    rw [mS] at h
    refine chk_good h fun e h T X W k hs tk => ?_
    split at h
    · simp only [Bool.and_eq_true] at h
      exact de_var (by rw [k.N]; simpa using h.1.1) (visB_ok (by rw [hs]; exact h.1.2)) (okN_1 h.2) (okN_2 h.2)
    · cases h
  | con d =>
    intro sc s h
    rw [mS] at h
    refine chk_good h fun e h T X W k hs tk => ?_
    split at h
    · exact con_de h
    · cases h
  | glo g =>
    intro sc s h
    rw [mS] at h
    refine chk_good h fun e h T X W k hs tk => ?_
    split at h
    · simp only [Bool.and_eq_true] at h
      obtain ⟨u, v, d, h1, h2, h3, h4⟩ := k.co _ _ (by simpa using h.2)
      exact de_glo (glB_ok (by rw [hs]; exact h.1.1)) h1 h2 h3 h4 (okN_1 h.1.2)
    · cases h
  | bin o a b iha ihb =>
    intro sc s h
    rw [mS] at h
    refine chk_good h fun e h T X W k hs tk => ?_
    split at h
    · simp only [Bool.and_eq_true] at h
      rw [opBq_ok h.1.1]
      exact de_bin k.K (iha _ _ h.1.2 T X W k hs tk) (ihb _ _ h.2 T X W k hs tk)
    · cases h
  | neg a iha =>
    intro sc s h
    rw [mS] at h
    refine chk_good h fun e h T X W k hs tk => ?_
    split at h
    · exact de_neg (iha _ _ h T X W k hs tk)
    · cases h
  | and a b iha ihb =>
    intro sc s h
    rw [mS.eq_def] at h
    dsimp only at h
    split at h
    · rename_i e1 e2 rest pos
      rw [Bool.and_eq_true] at h
      intro T X W k hs tk
      have h2 := ihb _ _ h.2 T X W k hs tk
      cases rest with
      | nil => exact de_and k.K (iha _ _ h.1 T X W k hs tk) (de_last h2)
      | cons e3 rest => exact de_and k.K (iha _ _ h.1 T X W k hs tk) h2
    · rename_i e1 e2 rest pos
      rw [Bool.and_eq_true] at h
      intro T X W k hs tk
      have h1 := (iha _ _ h.1 T X W k hs tk).1
      have h2 := ihb _ _ h.2 T X W k hs tk
      have key : DW X T W (.BoolOp .And (e1 :: e2 :: rest) pos) (evalT (kitOf P n) (.cons (.and a b) .nil)) := by
        cases rest with
        | nil => exact dw_and h1 (dw_and1 h2.1)
        | cons e3 rest => exact dw_and h1 (h2.2 rfl)
      exact ⟨PW.pt key, fun _ => key⟩
    · cases h
  | or a b iha ihb =>
    intro sc s h
    rw [mS.eq_def] at h
    dsimp only at h
    split at h
    · rename_i e1 e2 rest pos
      rw [Bool.and_eq_true] at h
      intro T X W k hs tk
      have h2 := ihb _ _ h.2 T X W k hs tk
      cases rest with
      | nil => exact de_or k.K (iha _ _ h.1 T X W k hs tk) (de_last h2)
      | cons e3 rest => exact de_or k.K (iha _ _ h.1 T X W k hs tk) h2
    · rename_i e1 e2 rest pos
      rw [Bool.and_eq_true] at h
      intro T X W k hs tk
      have h1 := (iha _ _ h.1 T X W k hs tk).1
      have h2 := ihb _ _ h.2 T X W k hs tk
      have key : DW X T W (.BoolOp .Or (e1 :: e2 :: rest) pos) (evalT (kitOf P n) (.cons (.or a b) .nil)) := by
        cases rest with
        | nil => exact dw_or h1 (dw_or1 h2.1)
        | cons e3 rest => exact dw_or h1 (h2.2 rfl)
      exact ⟨PW.pt key, fun _ => key⟩
    · cases h
  | not a iha =>
    intro sc s h
    rw [mS.eq_def] at h
    dsimp only at h
    split at h
    · exact fun T X W k hs tk => de_not k.K (iha _ _ h T X W k hs tk)
    · exact fun T X W k hs tk => ⟨dt_not (iha _ _ h T X W k hs tk).1, fun z => by cases z⟩
    · cases h
  | ite c a b ihc iha ihb =>
    intro sc s h
    rw [mS.eq_def] at h
    dsimp only at h
    split at h
    · simp only [Bool.and_eq_true] at h
      exact fun T X W k hs tk => de_ite (ihc _ _ h.1.1 T X W k hs tk).1 (iha _ _ h.1.2 T X W k hs tk) (ihb _ _ h.2 T X W k hs tk)
    · cases h
  | cmp o a b iha ihb =>
    intro sc s h
    rw [mS.eq_def] at h
    dsimp only at h
    split at h
    · simp only [Bool.and_eq_true, Bool.not_eq_true'] at h
      have e := opCq_ok h.1.1.1
      subst e
      exact fun T X W k hs tk => de_cmp k.K k.hu h.1.1.2 (iha _ _ h.1.2 T X W k hs tk) (ihb _ _ h.2 T X W k hs tk)
    · simp only [Bool.and_eq_true, Bool.not_eq_true'] at h
      have e := opCq_ok h.1.1.1
      subst e
      exact fun T X W k hs tk => ⟨dt_cmp k.K k.hu h.1.1.2 (iha _ _ h.1.2 T X W k hs tk) (ihb _ _ h.2 T X W k hs tk), fun z => by cases z⟩
    · cases h
  | chn o o' a b c iha ihb ihc =>
    intro sc s h
    rw [mS.eq_def] at h
    dsimp only at h
    split at h
    · simp only [Bool.and_eq_true, Bool.not_eq_true'] at h
      have e := opCq_ok h.1.1.1.1.1
      have e' := opCq_ok h.1.1.1.1.2
      subst e
      subst e'
      exact fun T X W k hs tk => de_chn k.K k.hu h.1.1.1.2 (iha _ _ h.1.1.2 T X W k hs tk) (ihb _ _ h.1.2 T X W k hs tk) (ihc _ _ h.2 T X W k hs tk)
    · simp only [Bool.and_eq_true, Bool.not_eq_true'] at h
      have e := opCq_ok h.1.1.1.1.1
      have e' := opCq_ok h.1.1.1.1.2
      subst e
      subst e'
      exact fun T X W k hs tk => ⟨dt_chn k.K k.hu h.1.1.1.2 (iha _ _ h.1.1.2 T X W k hs tk) (ihb _ _ h.1.2 T X W k hs tk) (ihc _ _ h.2 T X W k hs tk), fun z => by cases z⟩
    · cases h
  | tup es ih =>
    intro sc s h
    rw [mS] at h
    refine chk_good h fun e h T X W k hs tk => ?_
    split at h
    · exact de_tup (ih _ _ h T X W k hs tk)
    · cases h
  | lst f es ih =>
    intro sc s h
    rw [mS] at h
    refine chk_good h fun e h T X W k hs tk => ?_
    split at h
    · exact de_lst (ih _ _ h T X W k hs tk)
    · cases h
  | dic f es ih =>
    intro sc s h
    rw [mS] at h
    refine chk_good h fun e h T X W k hs tk => ?_
    split at h
    · rename_i ks vs pos
      split at h
      · rename_i hz
        rw [Bool.and_eq_true] at hz
        have e1 : ks = [] := List.isEmpty_iff.mp hz.1
        have e2 : vs = [] := List.isEmpty_iff.mp hz.2
        subst e1
        subst e2
        rw [isNil_ok h]
        exact de_dic0
      · simp only [Bool.and_eq_true, decide_eq_true_eq, Bool.not_eq_true'] at h
        exact de_dic (ih _ _ h.1.1.1.1.1 T X W pos k hs tk) h.1.1.1.1.2 h.1.1.1.2 h.1.1.2 (fun z => by rw [z] at h; simp at h) h.2
    · cases h
  | idx a i iha ihb =>
    intro sc s h
    rw [mS] at h
    refine chk_good h fun e h T X W k hs tk => ?_
    split at h
    · simp only [Bool.and_eq_true] at h
      exact de_idx k.K k.hu (ix_ok h.1.1) (iha _ _ h.1.2 T X W k hs tk) (ihb _ _ h.2 T X W k hs tk)
    · cases h
  | slc a lo hi iha ihb ihc =>
    intro sc s h
    rw [mS] at h
    refine chk_good h fun e h T X W k hs tk => ?_
    split at h
    · simp only [Bool.and_eq_true] at h
      exact de_slc k.K (iha _ _ h.1.1 T X W k hs tk) (ihb _ _ h.1.2 T X W k hs tk) (ihc _ _ h.2 T X W k hs tk)
    · cases h
  | call f es ih =>
    intro sc s h
    rw [mS] at h
    refine chk_good h fun e h T X W k hs tk => ?_
    split at h
    · simp only [Bool.and_eq_true] at h
      obtain ⟨j, fa, fd, ps, hF, hr, hm, hk, hb, _⟩ := k.fn _ _ (by simpa using h.1.1.2)
      have hst := h.1.2
      rw [List.all_cons, Bool.and_eq_true] at hst
      exact de_call hF hr k.gd (glB_ok (by rw [hs]; exact h.1.1.1.1)) hm hk hb tk (ih _ _ h.2 T X W k hs tk) (okN_1 h.1.1.1.2) (star_cons hst.1) (star_any hst.2)
    · cases h
  | callk f m ks pm a b iha ihb =>
    intro sc s h
    rw [mS] at h
    refine chk_good h fun e h T X W k hs tk => ?_
    split at h
    · simp only [Bool.and_eq_true, decide_eq_true_eq] at h
      obtain ⟨⟨⟨⟨⟨⟨⟨h1, h2⟩, h3⟩, h4⟩, h5⟩, h6⟩, h7⟩, h8⟩ := h
      obtain ⟨j, fa, fd, ps, hF, hr, hm, hk, hb, hkw⟩ := k.fn _ _ (by simpa using h3)
      have sg := hkw m ks pm (by simpa using h4)
      rename_i x p es kws pos
      obtain ⟨k1, k2, k3⟩ := kw_ok (X := X) (pos := pos) h5
      cases es with
      | nil =>
        simp only [List.isEmpty_nil, if_true, Bool.and_eq_true, beq_iff_eq] at h8
        have e := isNil_ok h8.1
        subst e
        have e := h8.2
        subst e
        exact de_callk0 hF hr k.gd (glB_ok (by rw [hs]; exact h1)) hm hk sg tk (ihb _ _ h7 T X W k hs tk) k1 k2 (okN_1 h2) (by rw [k3]; rfl)
      | cons e es =>
        have h8 : mS M a sc (.l (e :: es)) = true := h8
        rw [List.all_cons, Bool.and_eq_true] at h6
        refine de_callk hF hr k.gd (glB_ok (by rw [hs]; exact h1)) hm hk sg tk (iha _ _ h8 T X W k hs tk) (ihb _ _ h7 T X W k hs tk) k1 k2 (okN_1 h2) (star_cons h6.1) ?_
        rw [k3, star_any (by rw [List.all_cons, h6.1, h6.2]; rfl)]
        rfl
    · cases h
  | bi b es ih =>
    intro sc s h
    rw [mS] at h
    refine chk_good h fun e h T X W k hs tk => ?_
    split at h
    · simp only [Bool.and_eq_true] at h
      obtain ⟨⟨⟨⟨⟨h1, h2⟩, h3⟩, h4⟩, h5⟩, h6⟩ := h
      split at h1
      · rename_i id ty hb
        have e := eq_of_beq h1
        subst e
        rw [List.all_cons, Bool.and_eq_true] at h5
        rcases bi_rule (T := T) k.calm k.K k.gd k.hu hb with ⟨rfl, r, v⟩ | ⟨rfl, r, v⟩
        · exact de_biB r (glB_ok (by rw [hs]; exact h2)) (k.no _ h4) v (ih _ _ h6 T X W k hs tk) (okN_3 h3) (okN_1 h3) (star_cons h5.1) (star_any h5.2)
        · exact de_biT r (glB_ok (by rw [hs]; exact h2)) (k.no _ h4) v (ih _ _ h6 T X W k hs tk) (okN_3 h3) (okN_1 h3) (star_cons h5.1) (star_any h5.2)
      · cases h1
    · cases h
  | new f b es ih =>
    intro sc s h
    rw [mS] at h
    refine chk_good h fun e h T X W k hs tk => ?_
    split at h
    · simp only [Bool.and_eq_true] at h
      obtain ⟨⟨⟨⟨⟨h1, h2⟩, h3⟩, h4⟩, h5⟩, h6⟩ := h
      rw [List.all_cons, Bool.and_eq_true] at h5
      split at h1
      · have e := eq_of_beq h1
        subst e
        exact de_newT (cn_list (T := T) k.calm) (glB_ok (by rw [hs]; exact h2)) (k.no _ h4) (by decide +kernel) (ih _ _ h6 T X W k hs tk) (okN_3 h3) (okN_1 h3) (star_cons h5.1) (star_any h5.2)
      · have e := eq_of_beq h1
        subst e
        exact de_newB (id := "sorted") rfl (cn_sorted (T := T) k.calm) (glB_ok (by rw [hs]; exact h2)) (k.no _ h4) (by decide +kernel) (ih _ _ h6 T X W k hs tk) (okN_3 h3) (okN_1 h3) (star_cons h5.1) (star_any h5.2)
      · cases h1
    · cases h
  | cat f a b iha ihb =>
    intro sc s h
    rw [mS] at h
    refine chk_good h fun e h T X W k hs tk => ?_
    split at h
    · simp only [Bool.and_eq_true] at h
      exact de_cat (iha _ _ h.1 T X W k hs tk) (ihb _ _ h.2 T X W k hs tk)
    · cases h
  | cut f a lo hi iha ihb ihc =>
    intro sc s h
    rw [mS] at h
    refine chk_good h fun e h T X W k hs tk => ?_
    split at h
    · simp only [Bool.and_eq_true] at h
      exact de_cut (iha _ _ h.1.1 T X W k hs tk) (ihb _ _ h.1.2 T X W k hs tk) (ihc _ _ h.2 T X W k hs tk)
    · cases h
  | mth m a es iha ihb =>
    intro sc s h
    rw [mS] at h
    refine chk_good h fun e h T X W k hs tk => ?_
    split at h
    · simp only [Bool.and_eq_true] at h
      obtain ⟨⟨⟨⟨⟨h1, h2⟩, h3⟩, h4⟩, h5⟩, h6⟩ := h
      rename_i o nm apos es' cpos
      have e := eq_of_beq h2
      subst e
      cases es' with
      | nil =>
        have e := isNil_ok (show isNil es = true from h6)
        subst e
        exact de_mth0 h1 (iha _ _ h5 T X W k hs tk) (base_ok h3) h4
      | cons e es' =>
        have h6 : ((e :: es').all nStar && decide ((e :: es').length < 30) && mS M es sc (.l (e :: es'))) = true := h6
        simp only [Bool.and_eq_true, decide_eq_true_eq] at h6
        have hst := h6.1.1
        rw [List.all_cons, Bool.and_eq_true] at hst
        exact de_mth h1 (iha _ _ h5 T X W k hs tk) (ihb _ _ h6.2 T X W k hs tk) (base_ok h3) (few_ok h6.1.1 h6.1.2) h4 (star_cons hst.1) (star_any hst.2)
    · cases h
  | isi a ts iha =>
    intro sc s h
    rw [mS] at h
    refine chk_good h fun e h T X W k hs tk => ?_
    split at h
    · simp only [Bool.and_eq_true] at h
      obtain ⟨⟨⟨⟨⟨⟨h1, h2⟩, h3⟩, h4⟩, h5⟩, h6⟩, h7⟩ := h
      have e := eq_of_beq h1
      subst e
      split at h7
      · rename_i es kk tpos
        simp only [Bool.and_eq_true, decide_eq_true_eq, Bool.not_eq_true'] at h7
        cases ts with
        | nil => exact absurd h7.2 (by simp)
        | cons t ts => exact de_isiT k.ow (iha _ _ h6 T X W k hs tk) (tys_pe k hs h7.1.1) h7.1.2 (glB_ok (by rw [hs]; exact h2)) (k.no _ h3) (star_cons h4) (star_cons h5) (star_any (by rw [List.all_cons, h5]; rfl))
      · split at h7
        · exact de_isi1 k.ow (iha _ _ h6 T X W k hs tk) (ty_pe k hs h7) (glB_ok (by rw [hs]; exact h2)) (k.no _ h3) (star_cons h4) (star_cons h5) (star_any (by rw [List.all_cons, h5]; rfl))
        · cases h7
    · cases h
  | lc f is it c e ihi ihc ihe =>
    intro sc s h
    rw [mS] at h
    refine chk_good h fun ex h T X W k hs tk => ?_
    split at h
    · simp only [Bool.and_eq_true] at h
      obtain ⟨⟨⟨⟨⟨⟨h1, h2⟩, h3⟩, h4⟩, h5⟩, h6⟩, h7⟩ := h
      refine de_lc k.calm (by rw [k.N]; exact k.nd) (ihi _ _ h5 T X W k hs tk) (blkOk_by (by rw [k.N, hs]; exact h2)) own_1 (own_2 h3) (fun G s H C cl fp => ?_) (fun G s H C cl fp => ?_) (fun G s H C cl fp => ?_) (fold_ok h1)
      · exact tgB_dg h4 k.N k.nd k.K k.calm blk_loc
      · exact ihc _ _ h6 _ _ _ ((k.blk s H _ C cl fp).wG G) (by rw [← hs]; rfl) takes_blk
      · exact ihe _ _ h7 _ _ _ ((k.blk s H _ C cl fp).wG G) (by rw [← hs]; rfl) takes_blk
    · cases h
  | rng a b iha ihb =>
    intro sc s h
    rw [mS.eq_def] at h
    dsimp only at h
    split at h
    · simp only [Bool.and_eq_true] at h
      obtain ⟨⟨⟨h1, h2⟩, h3⟩, h4⟩ := h
      have e := eq_of_beq h1
      subst e
      intro T X W k hs tk
      split at h4
      · simp only [Bool.and_eq_true] at h4
        rw [isZero_ok h4.1.1]
        exact di_rng1 (glB_ok (by rw [hs]; exact h2)) (k.no _ h3) (da_cons (ihb _ _ h4.2 T X W k hs tk) da_nil (star_cons h4.1.2)) (by rw [star_cons h4.1.2]; rfl)
      · simp only [Bool.and_eq_true] at h4
        exact di_rng2 (glB_ok (by rw [hs]; exact h2)) (k.no _ h3) (da_cons (iha _ _ h4.1.2 T X W k hs tk) (da_cons (ihb _ _ h4.2 T X W k hs tk) da_nil (star_cons h4.1.1.2)) (star_cons h4.1.1.1)) (by rw [star_cons h4.1.1.1, star_cons h4.1.1.2]; rfl) (by rw [star_cons h4.1.1.2]; rfl)
      · cases h4
    · cases h
  | enu a iha =>
    intro sc s h
    rw [mS.eq_def] at h
    dsimp only at h
    split at h
    · rename_i tg x p e q
      simp only [Bool.and_eq_true] at h
      obtain ⟨⟨⟨⟨⟨h0, h1⟩, h2⟩, h3⟩, h4⟩, h5⟩ := h
      have ee := eq_of_beq h1
      subst ee
      cases tg <;> first | (cases h0; done) | skip
      exact fun T X W k hs tk => di_enu k.K (glB_ok (by rw [hs]; exact h2)) (k.no _ h3) (iha _ _ h5 T X W k hs tk) (by rw [star_cons h4]; rfl) (star_cons h4)
    · cases h
  | zip a b iha ihb =>
    intro sc s h
    rw [mS.eq_def] at h
    dsimp only at h
    split at h
    · rename_i tg x p e1 e2 q
      simp only [Bool.and_eq_true] at h
      obtain ⟨⟨⟨⟨⟨⟨⟨h0, h1⟩, h2⟩, h3⟩, h4⟩, h5⟩, h6⟩, h7⟩ := h
      have ee := eq_of_beq h1
      subst ee
      cases tg <;> first | (cases h0; done) | skip
      exact fun T X W k hs tk => di_zip k.K (glB_ok (by rw [hs]; exact h2)) (k.no _ h3) (iha _ _ h6 T X W k hs tk) (ihb _ _ h7 T X W k hs tk) (star_cons h4) (star_cons h5) (star_any (by rw [List.all_cons, h5]; rfl))
    · cases h
  | frz a iha =>
    intro sc s h
    rw [mS] at h
    cases h
  | ing neg a g iha =>
    intro sc s h
    rw [mS.eq_def] at h
    dsimp only at h
    split at h
    · simp only [Bool.and_eq_true, Bool.not_eq_true'] at h
      obtain ⟨⟨⟨⟨⟨h1, h2⟩, h3⟩, h4⟩, h5⟩, h6⟩ := h
      intro T X W k hs tk
      obtain ⟨q, xs, ds, k1, k2, k3, k4⟩ := k.ct _ _ (by simpa using h4)
      have e := opCq_ok h1
      subst e
      cases neg with
      | false => exact de_ing (u := .none) (neg := false) k.K (iha _ _ h6 T X W k hs tk) (glB_ok (by rw [hs]; exact h2)) k1 (okN_1 h3) k2 k3 k4 h5
      | true => exact de_ing (u := .none) (neg := true) k.K (iha _ _ h6 T X W k hs tk) (glB_ok (by rw [hs]; exact h2)) k1 (okN_1 h3) k2 k3 k4 h5
    · simp only [Bool.and_eq_true, Bool.not_eq_true'] at h
      obtain ⟨⟨⟨⟨⟨h1, h2⟩, h3⟩, h4⟩, h5⟩, h6⟩ := h
      intro T X W k hs tk
      obtain ⟨q, xs, ds, k1, k2, k3, k4⟩ := k.ct _ _ (by simpa using h4)
      have e := opCq_ok h1
      subst e
      cases neg with
      | false => exact ⟨dt_ing (neg := false) k.K (iha _ _ h6 T X W k hs tk) (glB_ok (by rw [hs]; exact h2)) k1 (okN_1 h3) k2 k3 k4 h5, fun z => by cases z⟩
      | true => exact ⟨dt_ing (neg := true) k.K (iha _ _ h6 T X W k hs tk) (glB_ok (by rw [hs]; exact h2)) k1 (okN_1 h3) k2 k3 k4 h5, fun z => by cases z⟩
    · cases h
  | bad =>
    intro sc s h
    rw [mS.eq_def] at h
    dsimp only at h
    split at h
    · exact fun T X W k hs tk => de_bad
    · cases h
  | nil =>
    intro sc s h
    rw [mS.eq_def] at h
    dsimp only at h
    split at h
    · exact fun T X W k hs tk => da_nil
    · exact fun T X W k hs tk => dk_nil
    · exact fun T X W k hs tk => do_nil
    · exact fun T X W k hs tk => dts_nil
    · exact fun T X W pos k hs tk => dps_nil
    · cases h
  | cons a b iha ihb =>
    intro sc s h
    rw [mS.eq_def] at h
    dsimp only at h
    split at h
    · simp only [Bool.and_eq_true] at h
      exact fun T X W k hs tk => da_cons (iha _ _ h.1.2 T X W k hs tk) (ihb _ _ h.2 T X W k hs tk) (star_cons h.1.1)
    · simp only [Bool.and_eq_true] at h
      exact fun T X W k hs tk => dk_cons (iha _ _ h.1 T X W k hs tk) (ihb _ _ h.2 T X W k hs tk)
    · exact fun T X W k hs tk => do_some (iha _ _ h T X W k hs tk)
    · exact fun T X W k hs tk => dts_one (dt_eq (iha _ _ h T X W k hs tk).1 fun env st => by rw [evalT, evalT])
    · exact fun T X W k hs tk => di_cons k.K (iha _ _ h T X W k hs tk)
    · simp only [Bool.and_eq_true] at h
      obtain ⟨y, r, rfl, h1, h2⟩ := ihb _ _ h.2
      exact fun T X W pos k hs tk => dps_cons (fun G => iha _ _ h.1 _ X W (k.wG G) hs tk) (fun G => h1 _ X W (k.wG G) hs tk) (h2 T X W pos k hs tk)
    · simp only [Bool.and_eq_true] at h
      exact ⟨a, b, rfl, fun T X W k hs tk => iha _ _ h.1 T X W k hs tk, fun T X W pos k hs tk => ihb _ _ h.2 T X W pos k hs tk⟩
    · cases h
end
end Vm
end

section
/-! V37: the text of statements against their tree. -/
namespace Vm
open PySem L2 PySem.Spec PyProof.Rows

/-- what a = of tuples stores -/
def swP (ts vs : List Expr) (sc : Scope) : Option (Option (List Str)) :=
  if !(ts.length == 2 || ts.length == 3) || vs.length != ts.length then some none
  else if !(vs.all nStar) then none
  else
    let line := (ts.head?.map (·.pos.line)).getD 0
    let names := ts.filterMap fun
      | .Name id pos => if sc.names.lookup id == some .local && pos.line == line then some id else none
      | _ => none
    if names.length != ts.length || names.eraseDups.length != names.length then some none
    else if vs.all (foldedForSure 8) then some none
    else if vs.all (constantsAlone 8) then none
    else some (some names)
theorem swP_ok {ts vs : List Expr} {sc : Scope} {env : PySem.Env} {r : Option (List Str)} {k k2 : Nat} {p p2 : Pos} (hs : env.scope = sc) (hk : sc.kind = .function) (h : swP ts vs sc = some r) : swappedStores [.Tuple ts k p] (.Tuple vs k2 p2) env = pure r := by
  have hb : env.blockKind = .function := by unfold Env.blockKind; rw [hs, hk]; rfl
  subst hs
  unfold swP at h
  unfold swappedStores
  simp only [hb]
  by_cases c1 : (!(ts.length == 2 || ts.length == 3) || vs.length != ts.length) = true
  · rw [if_pos c1] at h
    cases h
    rw [if_pos (by rw [c1]; rfl)]
  · rw [if_neg c1] at h
    have c1' : (!(ts.length == 2 || ts.length == 3) || vs.length != ts.length) = false := by simpa using c1
    rw [if_neg (by rw [c1']; decide)]
    by_cases c2 : (!(vs.all nStar)) = true
    · rw [if_pos c2] at h; cases h
    · rw [if_neg c2] at h
      have c2' : vs.all nStar = true := by simpa using c2
      split
      · rename_i z
        exfalso
        obtain ⟨e, he, ze⟩ := List.any_eq_true.mp z
        have := List.all_eq_true.mp c2' e he
        cases e <;> first | (cases ze; done) | (exact absurd this (by simp [nStar]))
      · split
        · rename_i c3
          dsimp only at h
          split at h
          · cases h
            rfl
          · rename_i c3'
            exact absurd c3 c3'
        · rename_i c3
          dsimp only at h
          split at h
          · rename_i c3'
            exact absurd c3' c3
          · split
            · rename_i c4
              rw [if_pos c4] at h
              cases h
              rfl
            · rename_i c4
              rw [if_neg c4] at h
              split
              · rename_i c5
                rw [if_pos c5] at h
                cases h
              · rename_i c5
                rw [if_neg c5] at h
                cases h
                rfl
def lcB (sc scope : Scope) (y : Str) (py pos : Pos) : Bool := (sc.names.lookup y == some .local) && (py.line == pos.line) && !(scope.names.any fun (n, k) => n == y && (k == .local || k == .cell))
theorem sw_false {elt : Expr} {gs : List Comprehension} {scope : Scope} {pos py : Pos} {y : Str} {l : Nat} {env : PySem.Env} (h : env.kindOf y ≠ some .local) : swapsWith (.ListComp elt gs scope pos) (some (.Name y py)) l env = pure false := by
  unfold swapsWith
  have : (env.kindOf y == some .local) = false := by
    cases q : env.kindOf y with
    | none => rfl
    | some k => cases k <;> first | rfl | exact absurd q h
  simp only [this, Bool.and_false, Bool.false_and]
def ndN : List Nat → Bool
  | [] => true
  | i :: is => !(is.contains i) && ndN is
/-- an assignment -/
def asgB (M : MC) (sc : Scope) (t : Lv) (x : Ex) (tg v : Expr) (pos : Pos) : Bool := match t with
  | .n i => nmB M.N sc tg i && (match v with
    | .ListComp elt [⟨tg', iter, ifs, 0⟩] scope cp => (match x, tg with
      | .lc f is it c e, .Name y py => if sc.names.lookup y == some .local then lcB sc scope y py cp && mS M x sc (.x v) && nSet iter && blkC M.N sc scope (ownOf M.N is) && is.all (fun i => decide (i < M.N.length)) && tgB M.N scope tg' is && mS M it sc (.i tg' iter) && mS M c (relS scope sc) (.c ifs) && mS M e (relS scope sc) (.x elt) else mS M x sc (.x v)
      | _, _ => false)
    | v => nComp v && mS M x sc (.x v))
  | .t is => tgB M.N sc tg is && isTup tg && (match v with
    | .Tuple vs _ _ => (match tg with
      | .Tuple ts _ _ => (match swP ts vs sc with
        | some none => mS M x sc (.x v)
        | some (some _) => (match x with
          | .tup es => ndN is && mS M es sc (.l vs) && (ts.all fun e => match e with
            | .Name y _ => sc.names.lookup y == some .local
            | _ => false) && decide (ts.length = vs.length) && decide (swP ts vs sc = some (some (ts.filterMap fun e => match e with
            | .Name y _ => some y
            | _ => none)))
          | _ => false)
        | none => false)
      | _ => false)
    | v => nComp v && mS M x sc (.x v))
  | .sub a i => (match tg with
    | .Subscript o ie _ => nSlice ie && nComp v && mS M x sc (.x v) && mS M a sc (.x o) && mS M i sc (.x ie)
    | _ => false)
  | .fld _ _ => false
def unCons : Ex → Option Ex
  | .cons c .nil => some c
  | _ => none
theorem unCons_ok {x c : Ex} (h : unCons x = some c) : x = .cons c .nil := by
  unfold unCons at h
  split at h
  · cases h; rfl
  · cases h
def tstB (M : MC) (sc : Scope) (x : Ex) (t : Expr) : Bool := match unCons x with
  | some c => mS M c sc (.t t)
  | none => false
def mB (M : MC) (sc : Scope) : Sm → List Stmt → Bool
  | .skip, ss => match ss with
    | [] => true
    | [.Pass _] => true
    | _ => false
  | .seq a b, ss => match ss with
    | s :: s2 :: ss => mB M sc a [s] && mB M sc b (s2 :: ss)
    | _ => false
  | .asg t x, ss => match ss with
    | [.Assign [tg] v pos] => asgB M sc t x tg v pos
    | _ => false
  | .ex x, ss => match ss with
    | [.Expr v pos] => nComp v && mS M x sc (.x v)
    | _ => false
  | .ret x, ss => match ss with
    | [.Return (some v) _] => mS M x sc (.x v)
    | [.Return none _] => (match x with
      | .con .none => true
      | _ => false)
    | _ => false
  | .ife x a b, ss => match ss with
    | [.If t p q _] => tstB M sc x t && mB M sc a p && mB M sc b q
    | _ => false
  | .whl x a, ss => match ss with
    | [.While t p [] _] => tstB M sc x t && mB M sc a p
    | _ => false
  | .for_ is it b, ss => match ss with
    | [.For tg iter p [] _] => mS M it sc (.i tg iter) && tgB M.N sc tg is && nSet iter && mB M sc b p
    | _ => false
  | .brk, ss => match ss with
    | [.Break _] => true
    | _ => false
  | .cnt, ss => match ss with
    | [.Continue _] => true
    | _ => false
  | .bad, ss => match ss with
    | [_] => true
    | _ => false
  | .rse _ _, _ => false
  | .tr _ _ _ _, _ => false
section
variable {P : Pg} {n : Nat} {M : MC} {T : Tb} {X : Cx} {W : L2.WX} {sc : Scope} {fl : Nat → List Str}
theorem tst_ok {x : Ex} {t : Expr} (k : Kn T P n M X) (hs : X.env.scope = sc) (tk : Takes X W) (h : tstB M sc x t = true) : DT X T W t (evalT (kitOf P n) x) := by
  unfold tstB at h
  split at h
  · rename_i c hc
    rw [unCons_ok hc]
    exact (mS_ok c sc (.t t) h T X W k hs tk).1
  · cases h
theorem def_loc (hs : X.env.scope = sc) (hf : ∀ x, X.fn x = true) : ∀ x, locB sc x = true → L2.Loc X.env.scope x ∧ (X.fn x = true ∨ X.env.scope.names.lookup x = some .local) := fun x h => ⟨by rw [hs]; exact locB_ok h, .inl (hf x)⟩
theorem asg_ok {t : Lv} {x : Ex} {tg v : Expr} {pos : Pos} (k : Kn T P n M X) (hs : X.env.scope = sc) (hk : sc.kind = .function) (hf : ∀ x, X.fn x = true) (tk : Takes X W) (h : asgB M sc t x tg v pos = true) : DS X T W (.Assign [tg] v pos) (execS (kitOf P n) fl (.asg t x)) := by
  have loc := def_loc hs hf
  have hN : X.N.Nodup := by rw [k.N]; exact k.nd
  unfold asgB at h
  split at h
  · rename_i i
    rw [Bool.and_eq_true] at h
    obtain ⟨h1, h⟩ := h
    have g1 := nmB_pg h1 k.N k.nd loc
    have g2 : (assignEach [tg] X.env).map (·.2) = [assign tg X.env] := each_one (nm_star h1)
    split at h
    · rename_i elt tg' iter ifs scope cp
      split at h
      · rename_i f is it c e y py
        split at h
        · rename_i hl
          simp only [Bool.and_eq_true] at h
          obtain ⟨⟨⟨⟨⟨⟨⟨⟨h0, _⟩, h2⟩, h3⟩, h4⟩, h5⟩, h6⟩, h7⟩, h8⟩ := h
          have hl : sc.names.lookup y = some .local := by simpa using hl
          unfold lcB at h0
          simp only [Bool.and_eq_true, Bool.not_eq_true'] at h0
          have hi : X.N[i]? = some y := by
            unfold nmB at h1
            simp only [Bool.and_eq_true] at h1
            rw [k.N]
            simpa using h1.1
          refine ds_setLc k.calm hN hi (by rw [hs]; exact hl) (sw_true (by rw [hs]; exact hk) (by rw [hs]; exact hl) h0.1.2 h0.2) (mS_ok it sc _ h6 T X W k hs tk) (blkOk_by (by rw [k.N, hs]; exact h3)) own_1 (own_2 h4) (fun G s H C cl fp => ?_) (fun G s H C cl fp => ?_) (fun G s H C cl fp => ?_) (fold_ok h2)
          · exact tgB_dg h5 k.N k.nd k.K k.calm blk_loc
          · exact mS_ok c _ _ h7 _ _ _ ((k.blk s H _ C cl fp).wG G) (by rw [← hs]; rfl) takes_blk
          · exact mS_ok e _ _ h8 _ _ _ ((k.blk s H _ C cl fp).wG G) (by rw [← hs]; rfl) takes_blk
        · rename_i hl
          have hl : X.env.kindOf y ≠ some .local := fun z => hl (by rw [← hs]; unfold Env.kindOf at z; rw [z]; rfl)
          exact ds_asgN (mS_ok _ sc _ h T X W k hs tk) g1 (show swapsWith (.ListComp elt [⟨tg', iter, ifs, 0⟩] scope cp) (some (.Name y py)) pos.line X.env = pure false from sw_false hl) stores_ok1 g2
      · cases h
    · simp only [Bool.and_eq_true] at h
      have ht : ∃ y p, tg = .Name y p := by
        unfold nmB at h1
        split at h1
        · exact ⟨_, _, rfl⟩
        · cases h1
      obtain ⟨y, p, rfl⟩ := ht
      exact ds_asgN (mS_ok _ sc _ h.2 T X W k hs tk) g1 (sole_ok h.1) stores_ok1 g2
  · rename_i is
    simp only [Bool.and_eq_true] at h
    obtain ⟨⟨h1, h2⟩, h⟩ := h
    have g1 : DG X T tg is := tgB_dg h1 k.N k.nd k.K k.calm loc
    cases tg <;> first | (cases h2; done) | skip
    rename_i ts tk' tp
    have g2 : (assignEach [Expr.Tuple ts tk' tp] X.env).map (·.2) = [assign (.Tuple ts tk' tp) X.env] := each_one rfl
    split at h
    · rename_i vs vk vp
      simp only at h
      split at h
      · rename_i hsw
        exact ds_asgT (mS_ok _ sc _ h T X W k hs tk) g1 (sole_ok rfl) (swP_ok hs hk hsw) g2
      · rename_i nms hsw
        split at h
        · rename_i es
          simp only [Bool.and_eq_true, decide_eq_true_eq] at h
          obtain ⟨⟨⟨⟨h3, h4⟩, h5⟩, h6⟩, h7⟩ := h
          have sw := swP_ok (k := tk') (k2 := vk) (p := tp) (p2 := vp) hs hk h7
          have da := mS_ok es sc _ h4 T X W k hs tk
          have hn : nmsB M.N sc ts is = true := by
            unfold tgB at h1
            simp only [Bool.and_eq_true] at h1
            exact h1.2
          have nm : ∀ {e : Expr} {i : Nat}, nmB M.N sc e i = true → (match e with | .Name y _ => sc.names.lookup y == some .local | _ => false) = true → ∃ y p, e = .Name y p ∧ X.N[i]? = some y ∧ X.env.scope.names.lookup y = some .local := fun {e i} a b => by
            unfold nmB at a
            split at a
            · rename_i y p
              rw [Bool.and_eq_true] at a
              exact ⟨y, p, rfl, by rw [k.N]; simpa using a.1, by rw [hs]; simpa using b⟩
            · cases a
          have hl : ts.length = is.length := (nms_pgs (X := X) k.N k.nd loc hn).2.1
          have no0 : ∀ {o}, swP ts vs sc = some (some o) → ts.length = 2 ∨ ts.length = 3 := fun {o} z => by
            unfold swP at z
            split at z
            · cases z
            · rename_i c
              simp at c
              exact Decidable.or_iff_not_imp_left.mpr c.1
          have l23 := no0 hsw
          rcases l23 with l2 | l3
          · obtain ⟨t1, t2, rfl⟩ : ∃ a b, ts = [a, b] := by
              match ts, l2 with
              | [a, b], _ => exact ⟨a, b, rfl⟩
            obtain ⟨i, j, rfl⟩ : ∃ a b, is = [a, b] := by
              match is, hl with
              | [a, b], _ => exact ⟨a, b, rfl⟩
            obtain ⟨v1, v2, rfl⟩ : ∃ a b, vs = [a, b] := by
              match vs, h6 with
              | [a, b], _ => exact ⟨a, b, rfl⟩
            simp only [nmsB, Bool.and_eq_true, Bool.and_true] at hn
            simp only [List.all_cons, List.all_nil, Bool.and_eq_true, Bool.and_true] at h5
            obtain ⟨y1, p1, rfl, a1, b1⟩ := nm hn.1 h5.1
            obtain ⟨y2, p2, rfl, a2, b2⟩ := nm hn.2 h5.2
            simp [ndN] at h3
            exact ds_par2 k.calm hN a1 a2 (fun e => h3 e) b1 b2 da sw
          · obtain ⟨t1, t2, t3, rfl⟩ : ∃ a b c, ts = [a, b, c] := by
              match ts, l3 with
              | [a, b, c], _ => exact ⟨a, b, c, rfl⟩
            obtain ⟨i, j, l, rfl⟩ : ∃ a b c, is = [a, b, c] := by
              match is, hl with
              | [a, b, c], _ => exact ⟨a, b, c, rfl⟩
            obtain ⟨v1, v2, v3, rfl⟩ : ∃ a b c, vs = [a, b, c] := by
              match vs, h6 with
              | [a, b, c], _ => exact ⟨a, b, c, rfl⟩
            simp only [nmsB, Bool.and_eq_true, Bool.and_true] at hn
            simp only [List.all_cons, List.all_nil, Bool.and_eq_true, Bool.and_true] at h5
            obtain ⟨y1, p1, rfl, a1, b1⟩ := nm hn.1 h5.1
            obtain ⟨y2, p2, rfl, a2, b2⟩ := nm hn.2.1 h5.2.1
            obtain ⟨y3, p3, rfl, a3, b3⟩ := nm hn.2.2 h5.2.2
            simp [ndN] at h3
            exact ds_par3 k.calm hN a1 a2 a3 (fun e => h3.1.1 e) (fun e => h3.1.2 e) (fun e => h3.2 e) b1 b2 b3 da sw
        · cases h
      · cases h
    · simp only [Bool.and_eq_true] at h
      rename_i hne
      refine ds_asgT (mS_ok _ sc _ h.2 T X W k hs tk) g1 (sole_ok h.1) (stores_ok ?_) g2
      cases v <;> first | rfl | exact absurd rfl (hne _ _ _)
  · split at h
    · rename_i a i o ie tpos
      simp only [Bool.and_eq_true] at h
      obtain ⟨⟨⟨⟨h1, h2⟩, h3⟩, h4⟩, h5⟩ := h
      exact ds_sub k.hu (mS_ok _ sc _ h3 T X W k hs tk) (mS_ok _ sc _ h4 T X W k hs tk) (mS_ok _ sc _ h5 T X W k hs tk) (by cases ie <;> first | (exact fun v => rfl) | cases h1) (sole_ok h2) stores_ok2 (each_one rfl)
    · cases h
  · cases h
theorem mB_ok (m : Sm) : ∀ (ss : List Stmt), mB M sc m ss = true → ∀ (T : Tb) (X : Cx) (W : L2.WX), Kn T P n M X → X.env.scope = sc → sc.kind = .function → (∀ x, X.fn x = true) → Takes X W → PassesOwn (model X.prog X.w) X.A X.env X.xe → DSs X T W ss (execS (kitOf P n) fl m) ∧ ∀ s, ss = [s] → DS X T W s (execS (kitOf P n) fl m) := by
  have one : ∀ {X : Cx} {T : Tb} {W : L2.WX} {s : Stmt} {m : Sm}, DS X T W s (execS (kitOf P n) fl m) → DSs X T W [s] (execS (kitOf P n) fl m) ∧ ∀ s', [s] = [s'] → DS X T W s' (execS (kitOf P n) fl m) := fun {X T W s m} h => ⟨ds_one h, fun s' e => by cases e; exact h⟩
  induction m with
  | skip =>
    intro ss h T X W k hs hk hf tk hp
    rw [mB.eq_def] at h
    dsimp only at h
    split at h
    · exact ⟨ds_skip, fun s e => by cases e⟩
    · exact one ds_pass
    · cases h
  | seq a b iha ihb =>
    intro ss h T X W k hs hk hf tk hp
    rw [mB.eq_def] at h
    dsimp only at h
    split at h
    · rw [Bool.and_eq_true] at h
      have h1 := iha _ h.1 T X W k hs hk hf tk hp
      exact ⟨ds_cons (h1.2 _ rfl) (ihb _ h.2 T X W k hs hk hf tk hp).1, fun s e => by cases e⟩
    · cases h
  | asg t x =>
    intro ss h T X W k hs hk hf tk hp
    rw [mB.eq_def] at h
    dsimp only at h
    split at h
    · exact one (asg_ok k hs hk hf tk h)
    · cases h
  | ex x =>
    intro ss h T X W k hs hk hf tk hp
    rw [mB.eq_def] at h
    dsimp only at h
    split at h
    · rw [Bool.and_eq_true] at h
      exact one (ds_ex (mS_ok _ sc _ h.2 T X W k hs tk) (swaps_ok h.1))
    · cases h
  | ret x =>
    intro ss h T X W k hs hk hf tk hp
    rw [mB.eq_def] at h
    dsimp only at h
    split at h
    · exact one (ds_ret (mS_ok _ sc _ h T X W k hs tk))
    · split at h
      · exact one ds_retN
      · cases h
    · cases h
  | ife x a b iha ihb =>
    intro ss h T X W k hs hk hf tk hp
    rw [mB.eq_def] at h
    dsimp only at h
    split at h
    · simp only [Bool.and_eq_true] at h
      exact one (ds_if (tst_ok k hs tk h.1.1) (iha _ h.1.2 T X W k hs hk hf tk hp).1 (ihb _ h.2 T X W k hs hk hf tk hp).1)
    · cases h
  | whl x a iha =>
    intro ss h T X W k hs hk hf tk hp
    rw [mB.eq_def] at h
    dsimp only at h
    split at h
    · simp only [Bool.and_eq_true] at h
      exact one (ds_while hp (tst_ok k hs tk h.1) (iha _ h.2 T X W k hs hk hf tk hp).1)
    · cases h
  | for_ is it b ihb =>
    intro ss h T X W k hs hk hf tk hp
    rw [mB.eq_def] at h
    dsimp only at h
    split at h
    · simp only [Bool.and_eq_true] at h
      exact one (ds_for hp k.calm (mS_ok _ sc _ h.1.1.1 T X W k hs tk) (tgB_dg h.1.1.2 k.N k.nd k.K k.calm (def_loc hs hf)) (ihb _ h.2 T X W k hs hk hf tk hp).1 (fold_ok h.1.2))
    · cases h
  | brk =>
    intro ss h T X W k hs hk hf tk hp
    rw [mB.eq_def] at h
    dsimp only at h
    split at h
    · exact one ds_brk
    · cases h
  | cnt =>
    intro ss h T X W k hs hk hf tk hp
    rw [mB.eq_def] at h
    dsimp only at h
    split at h
    · exact one ds_cnt
    · cases h
  | bad =>
    intro ss h T X W k hs hk hf tk hp
    rw [mB.eq_def] at h
    dsimp only at h
    split at h
    · exact one ds_bad
    · cases h
  | rse c es =>
    intro ss h
    rw [mB.eq_def] at h
    cases h
  | tr b c n' h' ihb ihh =>
    intro ss h
    rw [mB.eq_def] at h
    cases h
end
end Vm
end

section
/-! V38: from the text's tables to the law's walk. -/
namespace Vm
open PySem L2 PySem.Spec PyProof.Rows

/-! ### the part of the heap that is written, without lists -/
def noL (o : Obj) : Bool := match o.cls with
  | .type c => !(c == "list")
  | _ => true
def frL (g : Addr → Option Obj) (as : List Addr) : PySem.W.Frag := as.filterMap fun a => match g a with
  | some o => if noL o then some (a, o) else none
  | none => none
theorem frL_at {g : Addr → Option Obj} {a : Addr} {o : Obj} : ∀ as : List Addr, (frL g as).lookup a = some o → g a = some o ∧ noL o = true
  | [], e => nomatch (show (none : Option Obj) = some o from e)
  | b :: r, e => by
    unfold frL at e
    rw [List.filterMap_cons] at e
    cases hb : g b with
    | none =>
      rw [hb] at e
      exact frL_at r e
    | some ob =>
      rw [hb] at e
      simp only at e
      cases hn : noL ob with
      | false =>
        rw [hn] at e
        exact frL_at r e
      | true =>
        rw [hn] at e
        have e2 : (match a == b with | true => some ob | false => (frL g r).lookup a) = some o := e
        cases q : (a == b) with
        | true =>
          rw [q] at e2
          have eo : ob = o := Option.some.inj e2
          rw [beq_iff_eq.mp q, ← eo]
          exact ⟨hb, hn⟩
        | false =>
          rw [q] at e2
          exact frL_at r e2
def NoList (K : PySem.W.Frag) : Prop := ∀ a o, K.lookup a = some o → o.cls ≠ .type "list"
theorem noL_ok {o : Obj} (h : noL o = true) : o.cls ≠ .type "list" := fun e => by
  unfold noL at h
  rw [e] at h
  exact absurd h (by decide)
def obsV (fa : List He.Fa) (ex : PySem.W.Frag → Bool) (fn : List He.DefD) (K : PySem.W.Frag) : He.AlD := ((fa.all fun f => f.ok K) && ex K && fn.all fun d => d.ok K, fn.map fun d => He.fnW K d.at_)
def hookV (n : Nat) (fa : List He.Fa) (ex : PySem.W.Frag → Bool) (fn : List He.DefD) : PySem.W.Hook where
  α := He.AlD
  obs := fun s => obsV fa ex fn (frL s.heap.get? (He.asD s.heap.get? n))
  val := fun _ => He.valD fn
  says := fun _ h => ∃ K : PySem.W.Frag, K.In h ∧ NoList K ∧ obsV fa ex fn K = He.valD fn
  of := fun _ _ e => ⟨_, fun a o z => (frL_at _ z).1, fun a o z => noL_ok (frL_at _ z).2, e⟩
  keeps := fun _ _ _ ⟨K, hK, nl, c⟩ k => ⟨K, PySem.W.Frag.In.keeps hK k, nl, c⟩
theorem obsV_eq {n : Nat} {fa : List He.Fa} {ex : PySem.W.Frag → Bool} {fn : List He.DefD} {g : Addr → Option Obj} {s : Shared} (h : ∀ a, g a = s.heap.get? a) : obsV fa ex fn (frL g (He.asD g n)) = (hookV n fa ex fn).obs s := by
  have e : g = s.heap.get? := funext h
  rw [e] <;> rfl
section
variable {fa : List He.Fa} {ex : PySem.W.Frag → Bool} {fn : List He.DefD} {K : PySem.W.Frag}
theorem says_fact (c : obsV fa ex fn K = He.valD fn) {f : He.Fa} (h : f ∈ fa) : f.ok K = true := by
  have c1 := (He.ba (He.ba (show ((fa.all fun f => f.ok K) && ex K && fn.all fun d => d.ok K) = true from congrArg (fun z : He.AlD => z.1) c)).1).1
  exact List.all_eq_true.mp c1 f h
theorem says_ex (c : obsV fa ex fn K = He.valD fn) : ex K = true := (He.ba (He.ba (show ((fa.all fun f => f.ok K) && ex K && fn.all fun d => d.ok K) = true from congrArg (fun z : He.AlD => z.1) c)).1).2
theorem says_def (c : obsV fa ex fn K = He.valD fn) (i : Nat) {d : He.DefD} (h : fn[i]? = some d) : ∃ fd, FunD K d.name d.qual d.params d.body d.scope (d.dvs K) (d.kws K) (He.fAd K d.at_) fd := by
  have c2 := (He.ba (show ((fa.all fun f => f.ok K) && ex K && fn.all fun d => d.ok K) = true from congrArg (fun z : He.AlD => z.1) c)).2
  have e : fn.map (fun d => He.fnW K d.at_) = fn.map He.DefD.val := congrArg (fun z : He.AlD => z.2) c
  have e2 : (fn.map fun d => He.fnW K d.at_)[i]? = (fn.map He.DefD.val)[i]? := by rw [e]
  rw [List.getElem?_map, List.getElem?_map, h] at e2
  exact He.DefD.funD (Option.some.inj e2) (List.all_eq_true.mp c2 d (List.mem_of_getElem? h))
end

/-! ### the end -/
abbrev scr (a : Addr) (o : Obj) (ns : List Int) : Hp := fun b => if b = a then some (.frz o (.lst (ns.map V.int))) else none
theorem law_callV {P : Program} {w : World} {K : PySem.W.Frag} {mg mb : Str → Option Value} {k : Nat} {fa a : Addr} {fd : FuncData} {x : Str} {sp : Sp} {s₁ : Shared} {vs : List Value} {ns : List Int}
    (KX : K.In s₁.heap) (nl : NoList K) (hns : s₁.heap.Ns mainGlobals mg) (hb : s₁.heap.Ns builtinsNs mb) (hbb : ∀ x : Str, x ≠ "__name__" → mb x = bootBuiltins x) (hlim : s₁.heap.NoLimit) (hg : s₁.gens = #[])
    (ha : s₁.heap.get? a = some { cls := .type "list", data := .seq vs.toArray }) (hi : IntsAre vs ns) (hl : ns.length ≤ sizeLine) (hr : Room k callerA)
    (F : ∀ base : Heap, K.In base → base.Ns mainGlobals mg → FnG P w K mg base k fa fd [x] sp) (hbind : ∀ (s : Shared) (u : Value), BindsTo s fd ⟨[u], []⟩ [(x, u)])
    (hsp : ∀ (o : Obj), sp [.ref a] (scr a o ns) (fun v _ => v = .bl true) fun _ _ _ => False) :
    codeAny (model P w) callerA (.call (.ref fa) ⟨[.ref a], []⟩) (fun r s' => r = .ok (.ret (.bool true)) ∧ OldK s₁.heap s'.heap ∧ s'.os = s₁.os ∧ AllBare s'.gens) s₁ := by
  have kn : K.lookup a = none := by
    cases q : K.lookup a with
    | none => rfl
    | some o =>
      have e := KX a o q
      rw [ha] at e
      cases e
      exact absurd rfl (nl a _ q)
  have rv := vals_ints hi
  refine law_core KX hns hb hbb hlim hg ha hr F hbind (fun H e s' => cx_none) (scr a { cls := .type "list", data := .seq vs.toArray } ns) (fun b => ?_) (hsp _) (fun b u z => ?_) (fun b z => ?_) fun _ => kn
  · by_cases hb : b = a
    · exact .inr ⟨_, _, if_pos hb⟩
    · exact .inl (if_neg hb)
  · by_cases hb : b = a
    · have z' := (if_pos hb).symm.trans z
      cases z'
      subst hb
      exact ⟨ha, by rw [List.length_map]; exact hl, vs, _, rv, ha⟩
    · have z' := (if_neg hb).symm.trans z
      cases z'
  · by_cases hb : b = a
    · exact hb
    · exact absurd (if_neg hb) z
theorem walk_ofV {l : PySem.W.OpenLaw} {n k : Nat} {q : Program} {loose : List Str} {XP : (Str → Option Value) → Heap → Prop} {YP : World → Heap → Prop} {d : DefRec} {x : Str}
    (hn : l.most = some n) (hn2 : n ≤ sizeLine) (hdf : d.params.defaults = []) (hr : Room k callerA)
    (F : ∀ (w : World) (mg : Str → Option Value) (fa : Addr) (h : Heap), YP w h → h.Ns mainGlobals mg → mg d.name = some (.ref fa) →
      ∃ (K : PySem.W.Frag) (fd : FuncData) (sp : Sp), K.In h ∧ NoList K ∧ (∀ (s : Shared) (u : Value), BindsTo s fd ⟨[u], []⟩ [(x, u)]) ∧
        (∀ (a : Addr) (o : Obj) (ns : List Int), ns.length ≤ n → sp [.ref a] (scr a o ns) (fun v _ => v = .bl true) fun _ _ _ => False) ∧
        ∀ base : Heap, K.In base → base.Ns mainGlobals mg → FnG l.prog w K mg base k fa fd [x] sp) :
    PySem.W.WalkO q loose XP YP l.row.toRowW d [] (fun f vs => PySem.call f vs) := by
  refine Att.attach_call hn hdf fun w s₀ s₁ mg mb fa o pm cd doc a vs ns G Y ho hd hcd hmg hobj hints hlen hg => ?_
  obtain ⟨K, fd, sp, KX, nl, hb, hsp, hF⟩ := F w mg fa _ Y G.T.g hmg
  exact law_callV KX nl G.T.g G.T.b G.T.builtins G.T.nolimit hg hobj hints (Nat.le_trans hlen hn2) hr hF hb fun o => hsp a o ns hlen

/-! ### the text's tables -/
structure FT where
  nm : Str
  st : Stmt
  N : List Str
  ps : List Str
def fscB (t : FT) : Bool :=
  (match (defScope t.st).kind with | .function => true | _ => false) && !(defScope t.st).isCoroutine && !(defScope t.st).isGenerator && decide t.N.Nodup && decide (t.N.take t.ps.length = t.ps) && (t.ps.all fun x => locB (defScope t.st) x) &&
    ((defScope t.st).names.all fun y => match y.2 with | .free => false | _ => true)
theorem fscB_ok {t : FT} (h : fscB t = true) : FnScope t.N t.ps (defScope t.st) := by
  unfold fscB at h
  simp only [Bool.and_eq_true, Bool.not_eq_true', decide_eq_true_eq, List.all_eq_true] at h
  obtain ⟨⟨⟨⟨⟨⟨h1, h2⟩, h3⟩, h4⟩, h5⟩, h6⟩, h7⟩ := h
  refine ⟨?_, h2, h3, h4, h5, fun x hx => ?_, fun y hy e => ?_⟩
  · split at h1
    · assumption
    · cases h1
  · exact locB_ok (h6 x hx)
  · have := h7 y hy
    rw [e] at this
    cases this
def noKw (t : Stmt) : Bool := match t with
  | .FunctionDef .. => true
  | _ => false
/-- the tables' facts of the heap -/
def faOf (M : MC) (P : Pg) : List He.Fa := M.fn.map (fun q => .glo q.1) ++ M.no.map .free ++ M.co.map (fun q => match P.con q.2 with
  | some (.int i) => .int q.1 i
  | some (.str z) => .str q.1 z
  | _ => .free "") ++ M.ct.map fun q => .glo q.1
def dvOf : PyData → He.Dv
  | .int i => .int i
  | .str z => .str z
  | .bool b => .bl b
  | _ => .non
def flatC : PyData → Bool
  | .none => true
  | .int _ => true
  | .str _ => true
  | .bool _ => true
  | _ => false
theorem dv_dat {K : PySem.W.Frag} : ∀ {ds : List PyData}, ds.all flatC = true → DatL K (fun _ => none) ((ds.map dvOf).map (He.Dv.v K)) ds
  | [], _ => .nil
  | d :: ds, h => by
    rw [List.all_cons, Bool.and_eq_true] at h
    refine .cons ?_ (dv_dat h.2)
    cases d <;> first | exact .non | exact .int _ | exact .str _ | exact .bl _ | exact absurd h.1 (by simp [flatC])
def tuB (M : MC) (P : Pg) (K : PySem.W.Frag) : Bool := M.ct.all fun q => match P.con q.2 with
  | some (.tuple ds) => ds.all flatC && He.tupB K q.1 (ds.map dvOf)
  | _ => false
def fnOfT (tab : List FT) : List He.DefD := tab.map fun t => ⟨(t.nm, none), t.nm, t.nm, defArgs t.st, defBody t.st, defScope t.st, [], []⟩
/-- how the i-th def is called -/
def kwFor (M : MC) (tab : List FT) : Prop := ∀ i t, tab[i]? = some t →
  (∀ (kV doc pm : Value) (an : Option Addr) (cdv ct : Value) (us : List Value), us.length = t.ps.length → bindArgs (PySem.W.fnOf t.nm t.nm (defArgs t.st) (defBody t.st) (defScope t.st) .none kV doc pm an cdv ct) ⟨us, []⟩ = pure (t.ps.zip us)) ∧
  ∀ m ks pm', (i, m, ks, pm') ∈ M.kw → ∀ (kV doc pm : Value) (an : Option Addr) (cdv ct : Value) (us ws : List Value), us.length = m → ws.length = ks.length →
    bindArgs (PySem.W.fnOf t.nm t.nm (defArgs t.st) (defBody t.st) (defScope t.st) .none kV doc pm an cdv ct) ⟨us, ks.zip ws⟩ = pure (t.ps.zip (permL pm' (us ++ ws)))
/-- the look at all of the text -/
def tabB (P : Pg) (M : MC) (tab : List FT) (fns : List Fn) : Bool :=
  (M.fn.all fun q => match tab[q.2]? with
    | some t => t.nm == q.1
    | none => false) && decide (tab.length = fns.length) &&
  ((tab.zip fns).all fun q => fscB q.1 && decide (q.1.ps.length = q.2.np) && decide (q.1.N.length = q.2.ns) && decide (q.2.np ≤ q.2.ns) && mB { M with N := q.1.N } (defScope q.1.st) q.2.body (defBody q.1.st)) &&
  (M.co.all fun q => match P.con q.2 with
    | some (.int _) => true
    | some (.str _) => true
    | _ => false)
theorem mem_of_lk {α : Type} {l : List (Str × α)} {x : Str} {i : α} (h : l.lookup x = some i) : (x, i) ∈ l := PySem.mem_of_lookup h
section
variable {Pr : Program} {w : World} {K : PySem.W.Frag} {mg : Str → Option Value} {h : Heap} {P : Pg} {M : MC} {tab : List FT} {fns : List Fn}
theorem law_text (hP : ∀ i, P.fns i = fns[i]?) (hx : ∀ a b, P.isx a b = none) (ho : ∀ a b, P.iso a b = none) (hM : M.ow = []) (hT : tabB P M tab fns = true) (hk : kwFor M tab)
    (KX : K.In h) (G : h.Ns mainGlobals mg) (c : obsV (faOf M P) (tuB M P) (fnOfT tab) K = He.valD (fnOfT tab)) {i : Nat} {t : FT} (hi : tab[i]? = some t) (n : Nat) :
    ∃ fd T, T.K = K ∧ T.G = (fun _ => none) ∧ (∀ (s : Shared) (us : List Value), us.length = t.ps.length → BindsTo s fd ⟨us, []⟩ (t.ps.zip us)) ∧ ∀ base : Heap, K.In base → base.Ns mainGlobals mg → FnG Pr w K mg base n (He.fAd K (t.nm, none)) fd t.ps (spOf T P n i) := by
  have hT' := hT
  unfold tabB at hT'
  simp only [Bool.and_eq_true, decide_eq_true_eq, List.all_eq_true] at hT'
  obtain ⟨⟨⟨t1, t2⟩, t3⟩, t4⟩ := hT'
  have fd0 : ∀ i : Nat, ∃ fd : FuncData, ∀ t : FT, tab[i]? = some t → FunD K t.nm t.nm (defArgs t.st) (defBody t.st) (defScope t.st) [] [] (He.fAd K (t.nm, none)) fd := fun i => by
    cases q : tab[i]? with
    | none =>
      obtain ⟨fd, _⟩ := says_def c _ (show (fnOfT tab)[_]? = some _ from by unfold fnOfT; rw [List.getElem?_map, hi]; rfl)
      exact ⟨fd, fun t e => by cases e⟩
    | some t =>
      obtain ⟨fd, F⟩ := says_def c i (show (fnOfT tab)[i]? = some _ from by unfold fnOfT; rw [List.getElem?_map, q]; rfl)
      exact ⟨fd, fun t' e => by cases e; exact F⟩
  obtain ⟨fdF, hfd⟩ := Classical.axiomOfChoice fd0
  let T : Tb := ⟨K, fun _ => 0, fun _ => 0, fun _ => none⟩
  let dft : FT := t
  let info : Nat → FnI := fun i => let t := (tab[i]?).getD dft; ⟨t.nm, t.nm, t.st, He.fAd K (t.nm, none), fdF i, t.N, t.ps⟩
  have inf : ∀ {j d}, P.fns j = some d → ∃ t, tab[j]? = some t ∧ info j = ⟨t.nm, t.nm, t.st, He.fAd K (t.nm, none), fdF j, t.N, t.ps⟩ ∧ fscB t = true ∧ t.ps.length = d.np ∧ t.N.length = d.ns ∧ d.np ≤ d.ns ∧ mB { M with N := t.N } (defScope t.st) d.body (defBody t.st) = true := fun {j d} e => by
    rw [hP] at e
    have hl : j < tab.length := by
      rw [t2]
      rcases Nat.lt_or_ge j fns.length with q | q
      · exact q
      · rw [List.getElem?_eq_none q] at e; cases e
    have q : tab[j]? = some tab[j] := by simp [hl]
    have z : (tab[j], d) ∈ tab.zip fns := by
      refine List.mem_of_getElem? (i := j) ?_
      rw [List.getElem?_zip_eq_some]
      exact ⟨q, e⟩
    obtain ⟨⟨⟨⟨a1, a2⟩, a3⟩, a4⟩, a5⟩ := t3 _ z
    refine ⟨tab[j], q, ?_, a1, a2, a3, a4, a5⟩
    show (let t := (tab[j]?).getD dft; (⟨t.nm, t.nm, t.st, He.fAd K (t.nm, none), fdF j, t.N, t.ps⟩ : FnI)) = _
    rw [q]
    rfl
  have all : ∀ base : Heap, K.In base → base.Ns mainGlobals mg → ∀ n, AllF Pr w K mg base T P info n := fun base KB GB => allF (fun j d e => ?_) fun n ih j d e G2 W X b hs hp => ?_
  · refine ⟨fdF i, T, rfl, rfl, (hfd i t hi).bindsA (hk i t hi).1, fun base KB GB => ?_⟩
    have hl : i < fns.length := by
      rw [← t2]
      rcases Nat.lt_or_ge i tab.length with q | q
      · exact q
      · rw [List.getElem?_eq_none q] at hi; cases hi
    have e : P.fns i = some fns[i] := by rw [hP]; simp [hl]
    have z := all base KB GB n i _ e
    obtain ⟨t', q1, q2, _⟩ := inf e
    rw [hi] at q1
    cases q1
    rw [q2] at z
    exact z
  · obtain ⟨t', q1, q2, a1, a2, a3, a4, a5⟩ := inf e
    rw [q2]
    obtain ⟨oc, od, dV, kV, doc, pm, an, cdv, ct, osl, x1, x2, x3, _⟩ := (hfd j t' q1).ex
    exact ⟨⟨oc, od, dV, kV, doc, pm, an, cdv, ct, osl, x1, x1 ▸ x2, x3⟩, fscB_ok a1, a2, a3, a4⟩
  · obtain ⟨t', q1, q2, a1, a2, a3, a4, a5⟩ := inf e
    rw [q2] at b hs ⊢
    have S := fscB_ok a1
    have kn : Kn (T.wG G2) P n { M with N := t'.N } X := by
      have base : Kn T P n { M with N := t'.N } X := by
        refine ⟨b.N, S.nd, b.calm, b.K, b.gd, ?_, fun x j' hx' => ?_, fun x g hg => ?_, fun x g hg => ?_, fun x hx' => ?_, ⟨fun c t b z => ?_, fun c t b z => ?_⟩, fun x c hx' => ?_⟩
        · have := b.room.un
          omega
        · have m := mem_of_lk hx'
          have m1 := t1 _ m
          simp only at m1
          split at m1
          · rename_i t2' q
            have en : t2'.nm = x := eq_of_beq m1
            have hl : j' < fns.length := by
              rw [← t2]
              rcases Nat.lt_or_ge j' tab.length with q' | q'
              · exact q'
              · rw [List.getElem?_eq_none q'] at q; cases q
            have e' : P.fns j' = some fns[j'] := by rw [hP]; simp [hl]
            have z := ih j' _ e'
            obtain ⟨t3', q1', q2', _⟩ := inf e'
            rw [q] at q1'
            cases q1'
            rw [q2'] at z
            have F := hfd j' t2' q
            refine ⟨n, He.fAd K (t2'.nm, none), fdF j', t2'.ps, by rw [b.prog, b.w, b.K, b.mg, b.base]; exact z, b.room, ?_, by rw [b.K]; exact F.kp, ?_, fun m' ks pm' hm => ?_⟩
            · rw [b.mg, ← en]
              exact He.glo_ok KX G (says_fact c (List.mem_append.mpr (.inl (List.mem_append.mpr (.inl (List.mem_append.mpr (.inl (List.mem_map.mpr ⟨_, m, by rw [en]⟩))))))))
            · rw [b.K]
              exact F.bindsN (hk j' t2' q).1
            · rw [b.K]
              intro s us ws _ l1 l2
              obtain ⟨oc, od, dV, kV, doc, pm, an, cdv, ct, osl, x1, x2, x3, hD, _⟩ := F.ex
              rcases hD with ⟨_, rfl⟩ | ⟨e0, _⟩
              · rw [x1]
                exact BindsTo.of_eq ((hk j' t2' q).2 m' ks pm' hm kV doc pm an cdv ct us ws l1 l2)
              · exact absurd rfl e0
          · cases m1
        · have m := mem_of_lk hg
          have m1 := t4 _ m
          have fm : (match P.con g with | some (.int i) => He.Fa.int x i | some (.str z) => .str x z | _ => .free "") ∈ faOf M P :=
            List.mem_append.mpr (.inl (List.mem_append.mpr (.inr (List.mem_map.mpr ⟨_, m, rfl⟩))))
          simp only at m1
          split at m1
          · rename_i v hv
            rw [hv] at fm
            obtain ⟨tk, z⟩ := He.int_ok KX G (says_fact c fm)
            exact ⟨_, .int v, _, by rw [b.mg]; exact z, ⟨tk, rfl⟩, .int _, hv⟩
          · rename_i v hv
            rw [hv] at fm
            obtain ⟨tk, z⟩ := He.str_ok KX G (says_fact c fm)
            exact ⟨_, .str v, _, by rw [b.mg]; exact z, ⟨tk, rfl⟩, .str _, hv⟩
          · cases m1
        · have m := mem_of_lk hg
          have ge := He.glo_ok KX G (says_fact c (f := .glo x) (List.mem_append.mpr (.inr (List.mem_map.mpr ⟨_, m, rfl⟩))))
          have tu := List.all_eq_true.mp (says_ex c) _ m
          simp only at tu
          split at tu
          · rename_i ds hd
            rw [Bool.and_eq_true] at tu
            exact ⟨_, _, ds, by rw [b.mg]; exact ge, fun H => by rw [b.K]; exact He.tupB_ok tu.2 H, dv_dat tu.1, hd⟩
          · cases tu
        · rw [b.mg]
          exact He.free_ok KX G (says_fact c (List.mem_append.mpr (.inl (List.mem_append.mpr (.inl (List.mem_append.mpr (.inr (List.mem_map.mpr ⟨x, by simpa using hx', rfl⟩))))))))
        · have z : P.isx c t = some b := z
          rw [hx] at z; cases z
        · have z : P.iso c t = some b := z
          rw [ho] at z; cases z
        · have z : M.ow.lookup x = some c := hx'
          rw [hM] at z; cases z
      exact base.wG G2
    exact (mB_ok (fl := P.fields) d.body _ a5 _ X W kn hs S.kind b.fn b.tk hp).1
theorem law_end {l : PySem.W.OpenLaw} {x : Str} {i fuel : Nat} {t : FT} {fa : Addr} (hT : tabB P M tab fns = true) (hk : kwFor M tab) (hi : tab[i]? = some t) (KX : K.In h) (nl : NoList K) (G : h.Ns mainGlobals mg) (c : obsV (faOf M P) (tuB M P) (fnOfT tab) K = He.valD (fnOfT tab))
    (hmg : mg t.nm = some (.ref fa)) (hps : t.ps = [x]) (hfn : M.fn.lookup t.nm = some i) (hP : ∀ i, P.fns i = fns[i]?) (hx : ∀ a b, P.isx a b = none) (ho : ∀ a b, P.iso a b = none) (hM : M.ow = [])
    (plain : ∀ ns : List Int, ns.length ≤ 63 → ∃ st, runF P fuel i [.p (.list (ns.map .int))] [] = .ok (.p (.bool true)) st) :
    ∃ (K : PySem.W.Frag) (fd : FuncData) (sp : Sp), K.In h ∧ NoList K ∧ (∀ (s : Shared) (u : Value), BindsTo s fd ⟨[u], []⟩ [(x, u)]) ∧
        (∀ (a : Addr) (o : Obj) (ns : List Int), ns.length ≤ 63 → sp [.ref a] (scr a o ns) (fun v _ => v = .bl true) fun _ _ _ => False) ∧
        ∀ base : Heap, K.In base → base.Ns mainGlobals mg → FnG l.prog w K mg base fuel fa fd [x] sp := by
  obtain ⟨fd, T, hTK, hTG, hb, hF⟩ := law_text (Pr := l.prog) (w := w) hP hx ho hM hT hk KX G c hi fuel
  have e := hmg.symm.trans (He.glo_ok KX G (says_fact c (f := .glo t.nm) (List.mem_append.mpr (.inl (List.mem_append.mpr (.inl (List.mem_append.mpr (.inl (List.mem_map.mpr ⟨(t.nm, i), mem_of_lk hfn, rfl⟩)))))))))
  cases e
  rw [hps] at hb hF
  refine ⟨K, fd, spOf T P fuel i, KX, nl, fun s u => hb s [u] rfl, fun a o ns hl => ?_, hF⟩
  obtain ⟨st, hr⟩ := plain ns hl
  have S : Sim (T.wG (fun _ => none)) (scr a o ns) (fun _ => 0) [] (scr a o ns) := by
    refine ⟨Sub.refl _, fun k c e => by simp at e, fun j k hj => by simp at hj, fun b u e => ?_, fun b u e => ?_⟩
    · exact absurd (show (none : Option HO) = some u from e) (by intro z; cases z)
    · exact absurd (show (none : Option HO) = some u from e) (by intro z; cases z)
  have hd : ∃ d, P.fns i = some d ∧ [Val.p (.list (ns.map .int))].length = d.np := by
    refine runF_len (n := fuel) (st := []) (T := T) (W := fun _ _ _ _ => True) (σ := []) (F := scr a o ns) (ι := fun _ => 0) (m := 0) (Q := fun _ _ => True) ?_
    rw [hr]
    exact fun _ _ _ _ _ _ _ _ => trivial
  obtain ⟨d, h1, h2⟩ := hd
  refine ⟨fun _ => none, scr a o ns, fun _ => 0, [], [.p (.list (ns.map .int))], d, S, .cons (.p (.lst (.inr ⟨o, if_pos rfl⟩) (DatL.ints ns))) .nil, h1, h2, ?_⟩
  rw [hr]
  intro F' ι' H' y N hn S' r
  cases r with
  | p r => cases r; rfl
end
end Vm
end

section
/-! V40: the evaluator by what must hold. -/
namespace Vm
open PySem

abbrev EK := Nat → List (Str × PyData) → Store → Prop
def wpR {α : Type} (r : R α) (Q : α → Store → Prop) (E : EK) : Prop := match r with
  | .ok a s => Q a s
  | .er c fs s => E c fs s
  | .no => False
structure FK where
  nx : Env → Store → Prop
  rt : Val → Store → Prop
  bk : Env → Store → Prop := fun _ _ => False
  ct : Env → Store → Prop := fun _ _ => False
  er : Nat → List (Str × PyData) → Env → Store → Prop := fun _ _ _ _ => False
def wpF (r : Fl) (D : FK) : Prop := match r with
  | .nx e s => D.nx e s
  | .rt v s => D.rt v s
  | .bk e s => D.bk e s
  | .ct e s => D.ct e s
  | .er c fs e s => D.er c fs e s
  | .no => False
def wpO {α : Type} (o : Option α) (F : α → Prop) : Prop := match o with
  | some a => F a
  | none => False
def wpB (t : Bool) (A B : Prop) : Prop := (t = true → A) ∧ (t = false → B)
theorem wpO_of {α : Type} {o : Option α} {a : α} {F : α → Prop} (h : o = some a) (q : F a) : wpO o F := by rw [h]; exact q
theorem wpB_mk {t : Bool} {A B : Prop} (h1 : t = true → A) (h2 : t = false → B) : wpB t A B := ⟨h1, h2⟩
theorem wpB_t {A B : Prop} (h : A) : wpB true A B := ⟨fun _ => h, fun z => absurd z (by decide)⟩
theorem wpB_f {A B : Prop} (h : B) : wpB false A B := ⟨fun z => absurd z (by decide), fun _ => h⟩
theorem wpB_true {t : Bool} {A B : Prop} (e : t = true) (h : A) : wpB t A B := by rw [e]; exact wpB_t h
theorem wpB_false {t : Bool} {A B : Prop} (e : t = false) (h : B) : wpB t A B := by rw [e]; exact wpB_f h
section
variable {α β : Type} {Q : α → Store → Prop} {Q' : β → Store → Prop} {E : EK} {s : Store}
theorem wpR.imp {r : R α} {Q2 : α → Store → Prop} (h : wpR r Q E) (i : ∀ a s, Q a s → Q2 a s) : wpR r Q2 E := by
  cases r with
  | ok a s => exact i _ _ h
  | er c fs s => exact h
  | no => exact h
theorem wpR.eq {r : R α} {r' : R α} (h : wpR r' Q E) (e : r = r') : wpR r Q E := e ▸ h
theorem wp_ok {a : α} (q : Q a s) : wpR (.ok a s) Q E := q
theorem wp_bind {r : R α} {f : α → Store → R β} (h : wpR r (fun a s => wpR (f a s) Q' E) E) : wpR (r.bind f) Q' E := by
  cases r with
  | ok a s => exact h
  | er c fs s => exact h
  | no => exact h
theorem wp_fl {r : R α} {env : Env} {f : α → Store → Fl} {D : FK} (h : wpR r (fun a s => wpF (f a s) D) (fun c fs s => D.er c fs env s)) : wpF (r.fl env f) D := by
  cases r with
  | ok a s => exact h
  | er c fs s => exact h
  | no => exact h
theorem wp_of {o : Option α} (h : wpO o fun a => Q a s) : wpR (R.of o s) Q E := by
  cases o with
  | some a => exact h
  | none => exact h.elim
end
section
variable {K : Kit} {a b c : Ex} {env : Env} {st : Store} {Q : Val → Store → Prop} {E : EK} {i : Nat} {v : Val} {d : PyData}
theorem x_var (h : env[i]? = some (some v)) (q : Q v st) : wpR (evalX K (.var i) env st) Q E := by rw [evalX, h]; exact q
theorem x_con (q : Q (.p d) st) : wpR (evalX K (.con d) env st) Q E := by rw [evalX]; exact q
theorem x_glo {g : Nat} (h : K.con g = some d) (q : Q (.p d) st) : wpR (evalX K (.glo g) env st) Q E := by rw [evalX, h]; exact q
theorem x_bin {o : BinO} (h : wpR (evalX K a env st) (fun x s1 => wpR (evalX K b env s1) (fun y s2 => wpO (binV o (see s2 x) (see s2 y)) fun z => Q z s2) E) E) : wpR (evalX K (.bin o a b) env st) Q E := by
  rw [evalX]; exact wp_bind (h.imp fun x s1 h => wp_bind (h.imp fun y s2 h => wp_of h))
theorem x_neg (h : wpR (evalX K a env st) (fun x s => ∃ i, x = .p (.int i) ∧ Q (.p (.int (-i))) s) E) : wpR (evalX K (.neg a) env st) Q E := by
  rw [evalX]; exact wp_bind (h.imp fun x s ⟨i, e, q⟩ => by rw [e]; exact q)
theorem x_and (h : wpR (evalX K a env st) (fun x s => wpO (truthV (see s x)) fun t => wpB t (wpR (evalX K b env s) Q E) (Q x s)) E) : wpR (evalX K (.and a b) env st) Q E := by
  rw [evalX]
  refine wp_bind (h.imp fun x s h => ?_)
  cases e : truthV (see s x) with
  | none => rw [e] at h; exact h.elim
  | some t =>
    rw [e] at h
    cases t with
    | true => exact h.1 rfl
    | false => exact h.2 rfl
theorem x_or (h : wpR (evalX K a env st) (fun x s => wpO (truthV (see s x)) fun t => wpB t (Q x s) (wpR (evalX K b env s) Q E)) E) : wpR (evalX K (.or a b) env st) Q E := by
  rw [evalX]
  refine wp_bind (h.imp fun x s h => ?_)
  cases e : truthV (see s x) with
  | none => rw [e] at h; exact h.elim
  | some t =>
    rw [e] at h
    cases t with
    | true => exact h.1 rfl
    | false => exact h.2 rfl
theorem x_not (h : wpR (evalX K a env st) (fun x s => wpO (truthV (see s x)) fun t => Q (.p (.bool (!t))) s) E) : wpR (evalX K (.not a) env st) Q E := by
  rw [evalX]
  refine wp_bind (h.imp fun x s h => ?_)
  cases e : truthV (see s x) with
  | none => rw [e] at h; exact h.elim
  | some t => rw [e] at h; exact h
theorem x_ite (h : wpR (evalX K c env st) (fun x s => wpO (truthV (see s x)) fun t => wpB t (wpR (evalX K a env s) Q E) (wpR (evalX K b env s) Q E)) E) : wpR (evalX K (.ite c a b) env st) Q E := by
  rw [evalX]
  refine wp_bind (h.imp fun x s h => ?_)
  cases e : truthV (see s x) with
  | none => rw [e] at h; exact h.elim
  | some t =>
    rw [e] at h
    cases t with
    | true => exact h.1 rfl
    | false => exact h.2 rfl
theorem x_cmp {o : CmpO} (h : wpR (evalX K a env st) (fun x s1 => wpR (evalX K b env s1) (fun y s2 => wpO (cmpV o (see s2 x) (see s2 y)) fun t => Q (.p (.bool t)) s2) E) E) : wpR (evalX K (.cmp o a b) env st) Q E := by
  rw [evalX]
  refine wp_bind (h.imp fun x s1 h => wp_bind (h.imp fun y s2 h => ?_))
  cases e : cmpV o (see s2 x) (see s2 y) with
  | none => rw [e] at h; exact h.elim
  | some t => rw [e] at h; exact h
theorem x_chn {o o' : CmpO} (h : wpR (evalX K a env st) (fun x s1 => wpR (evalX K b env s1) (fun y s2 => wpO (cmpV o (see s2 x) (see s2 y)) fun t => wpB t (wpR (evalX K c env s2) (fun z s3 => wpO (cmpV o' (see s3 y) (see s3 z)) fun t => Q (.p (.bool t)) s3) E) (Q (.p (.bool false)) s2)) E) E) : wpR (evalX K (.chn o o' a b c) env st) Q E := by
  rw [evalX]
  refine wp_bind (h.imp fun x s1 h => wp_bind (h.imp fun y s2 h => ?_))
  cases e : cmpV o (see s2 x) (see s2 y) with
  | none => rw [e] at h; exact h.elim
  | some t =>
    rw [e] at h
    cases t with
    | false => exact h.2 rfl
    | true =>
      refine wp_bind ((h.1 rfl).imp fun z s3 h => ?_)
      cases e : cmpV o' (see s3 y) (see s3 z) with
      | none => rw [e] at h; exact h.elim
      | some t => rw [e] at h; exact h
theorem x_tup {es : Ex} (h : wpR (evalL K es env st) (fun vs s => vs.length ≤ SZ ∧ Q (mkT vs) s) E) : wpR (evalX K (.tup es) env st) Q E := by
  rw [evalX]; exact wp_bind (h.imp fun vs s h => by rw [if_pos h.1]; exact h.2)
theorem x_lst {f : Nat} {es : Ex} (h : wpR (evalL K es env st) (fun vs s => vs.length ≤ SZ ∧ wpR (alloc f vs s) Q E) E) : wpR (evalX K (.lst f es) env st) Q E := by
  rw [evalX]; exact wp_bind (h.imp fun vs s h => by rw [if_pos h.1]; exact h.2)
theorem x_dic {f : Nat} {es : Ex} (h : wpR (evalL K es env st) (fun vs s => wpO (pairsOf vs) fun kvs => ((kvs.all fun q => isKey1 q.1) = true ∧ kvs.length ≤ 15) ∧ wpR (allocD f (mergeV kvs) s) Q E) E) : wpR (evalX K (.dic f es) env st) Q E := by
  rw [evalX]
  refine wp_bind (h.imp fun vs s h => ?_)
  cases e : pairsOf vs with
  | none => rw [e] at h; exact h.elim
  | some kvs =>
    rw [e] at h
    simp only
    rw [if_pos h.1]
    exact h.2
theorem x_idx (h : wpR (evalX K a env st) (fun x s1 => wpR (evalX K b env s1) (fun y s2 => wpO (idxV s2 x y) fun z => Q z s2) E) E) : wpR (evalX K (.idx a b) env st) Q E := by
  rw [evalX]; exact wp_bind (h.imp fun x s1 h => wp_bind (h.imp fun y s2 h => wp_of h))
theorem x_slc {lo hi : Ex} (h : wpR (evalX K a env st) (fun x s1 => wpR (evalO K lo env s1) (fun i s2 => wpR (evalO K hi env s2) (fun j s3 => wpO (slcV s3 i j x) fun z => Q z s3) E) E) E) : wpR (evalX K (.slc a lo hi) env st) Q E := by
  rw [evalX]; exact wp_bind (h.imp fun x s1 h => wp_bind (h.imp fun y s2 h => wp_bind (h.imp fun z s3 h => wp_of h)))
theorem x_call {f : Nat} {es : Ex} (h : wpR (evalL K es env st) (fun vs s => wpR (K.fn f vs s) Q E) E) : wpR (evalX K (.call f es) env st) Q E := by
  rw [evalX]; exact wp_bind h
theorem x_callk {f n : Nat} {ks : List Str} {pm : List Nat} (h : wpR (evalL K a env st) (fun vs s => wpR (evalL K b env s) (fun ws s2 => (vs.length = n ∧ ws.length = ks.length) ∧ wpR (K.fn f (permL pm (vs ++ ws)) s2) Q E) E) E) : wpR (evalX K (.callk f n ks pm a b) env st) Q E := by
  rw [evalX]; exact wp_bind (h.imp fun vs s h => wp_bind (h.imp fun ws s h => by rw [if_pos h.1]; exact h.2))
theorem x_bi {o : Bi} {es : Ex} (h : wpR (evalL K es env st) (fun vs s => wpO (biV o vs s) fun z => Q z s) E) : wpR (evalX K (.bi o es) env st) Q E := by
  rw [evalX]; exact wp_bind (h.imp fun vs s h => wp_of h)
theorem x_newL {f : Nat} {o : Bi} {es : Ex} (h : wpR (evalL K es env st) (fun vs s => ∃ ds, biV o vs s = some (.p (.list ds)) ∧ wpR (alloc f (ds.map .p) s) Q E) E) : wpR (evalX K (.new f o es) env st) Q E := by
  rw [evalX]; exact wp_bind (h.imp fun vs s ⟨ds, e, h⟩ => by rw [e]; exact h)
theorem x_cat {f : Nat} (h : wpR (evalX K a env st) (fun x s1 => wpR (evalX K b env s1) (fun y s2 => ∃ xs ys, asL (see s2 x) = some xs ∧ asL (see s2 y) = some ys ∧ xs.length + ys.length ≤ SZ ∧ wpR (alloc f (xs ++ ys) s2) Q E) E) E) : wpR (evalX K (.cat f a b) env st) Q E := by
  rw [evalX]; exact wp_bind (h.imp fun x s1 h => wp_bind (h.imp fun y s2 ⟨xs, ys, e1, e2, l, h⟩ => by rw [e1, e2]; simp only; rw [if_pos l]; exact h))
theorem x_cut {f : Nat} {lo hi : Ex} (h : wpR (evalX K a env st) (fun x s1 => wpR (evalO K lo env s1) (fun i s2 => wpR (evalO K hi env s2) (fun j s3 => ∃ xs, seqL s3 x = some xs ∧ wpR (alloc f (cutL xs i j) s3) Q E) E) E) E) : wpR (evalX K (.cut f a lo hi) env st) Q E := by
  rw [evalX]; exact wp_bind (h.imp fun x s1 h => wp_bind (h.imp fun i s2 h => wp_bind (h.imp fun j s3 ⟨xs, e, h⟩ => by rw [e]; exact h)))
theorem x_mth {m : Mt} {es : Ex} (h : wpR (evalX K a env st) (fun x s1 => ∃ kd, mkind s1 x = some kd ∧ supp m kd = true ∧ wpR (evalL K es env s1) (fun vs s2 => wpR (mtV m x vs s2) Q E) E) E) : wpR (evalX K (.mth m a es) env st) Q E := by
  rw [evalX]; exact wp_bind (h.imp fun x s1 ⟨kd, e, e2, h⟩ => by rw [e]; simp only; rw [if_pos e2]; exact wp_bind h)
theorem x_isi {ts : List Ty} (h : wpR (evalX K a env st) (fun x s => wpO (isiAny K s x ts) fun t => Q (.p (.bool t)) s) E) : wpR (evalX K (.isi a ts) env st) Q E := by
  rw [evalX]
  refine wp_bind (h.imp fun x s h => ?_)
  cases e : isiAny K s x ts with
  | none => rw [e] at h; exact h.elim
  | some t => rw [e] at h; exact h
theorem x_ing {neg : Bool} {g : Nat} {ds : List PyData} (hg : K.con g = some (.tuple ds)) (hd : ds.all flatD = true) (h : wpR (evalX K a env st) (fun x s => ∃ d, see s x = .p d ∧ flatD d = true ∧ Q (.p (.bool (if neg then !(ds.any fun z => PyData.eqv z d) else ds.any fun z => PyData.eqv z d))) s) E) : wpR (evalX K (.ing neg a g) env st) Q E := by
  rw [evalX]
  refine wp_bind (h.imp fun x s ⟨d, e, f, h⟩ => ?_)
  rw [e, hg]
  simp only
  rw [if_pos ⟨f, hd⟩]
  exact h
theorem x_in {g : Nat} {ds : List PyData} (hg : K.con g = some (.tuple ds)) (hd : ds.all flatD = true) (h : wpR (evalX K a env st) (fun x s => ∃ d, see s x = .p d ∧ flatD d = true ∧ Q (.p (.bool (ds.any fun z => PyData.eqv z d))) s) E) : wpR (evalX K (.ing false a g) env st) Q E := x_ing hg hd (h.imp fun x s ⟨d, h1, h2, h3⟩ => ⟨d, h1, h2, by simpa using h3⟩)
theorem l_nil {Q : List Val → Store → Prop} (q : Q [] st) : wpR (evalL K .nil env st) Q E := by rw [evalL]; exact q
theorem l_cons {Q : List Val → Store → Prop} (h : wpR (evalX K a env st) (fun x s => wpR (evalL K b env s) (fun xs s2 => Q (x :: xs) s2) E) E) : wpR (evalL K (.cons a b) env st) Q E := by
  rw [evalL]; exact wp_bind (h.imp fun x s h => wp_bind (h.imp fun xs s2 h => h))
theorem o_nil {Q : Option Int → Store → Prop} (q : Q none st) : wpR (evalO K .nil env st) Q E := by rw [evalO]; exact q
theorem o_some {Q : Option Int → Store → Prop} (h : wpR (evalX K a env st) (fun x s => ∃ i, x = .p (.int i) ∧ Q (some i) s) E) : wpR (evalO K (.cons a b) env st) Q E := by
  rw [evalO]; exact wp_bind (h.imp fun x s ⟨i, e, h⟩ => by rw [e]; exact h)
theorem t_nil {Q : Bool → Store → Prop} (q : Q true st) : wpR (evalT K .nil env st) Q E := by rw [evalT]; exact q
theorem t_some {Q : Bool → Store → Prop} (h : wpR (evalX K a env st) (fun x s => wpO (truthV (see s x)) fun t => Q t s) E) : wpR (evalT K (.cons a b) env st) Q E := by
  rw [evalT]
  refine wp_bind (h.imp fun x s h => ?_)
  cases e : truthV (see s x) with
  | none => rw [e] at h; exact h.elim
  | some t => rw [e] at h; exact h
theorem i_rng {Q : List Val → Store → Prop} (h : wpR (evalX K a env st) (fun x s => wpR (evalX K b env s) (fun y s2 => ∃ i j, x = .p (.int i) ∧ y = .p (.int j) ∧ (-(2 ^ 62) ≤ i ∧ i < 2 ^ 62 ∧ -(2 ^ 62) ≤ j ∧ j < 2 ^ 62) ∧ Q (rangeV i j) s2) E) E) : wpR (evalI K (.rng a b) env st) Q E := by
  rw [evalI]; exact wp_bind (h.imp fun x s h => wp_bind (h.imp fun y s2 ⟨i, j, e1, e2, l, h⟩ => by rw [e1, e2]; simp only; rw [if_pos l]; exact h))
theorem i_enu {Q : List Val → Store → Prop} (h : wpR (evalX K a env st) (fun x s => wpR (frzV x s) (fun x s => wpO (asL x) fun vs => Q (enumV 0 vs) s) E) E) : wpR (evalI K (.enu a) env st) Q E := by
  rw [evalI]
  refine wp_bind (h.imp fun x s h => wp_bind (h.imp fun x s h => ?_))
  cases e : asL x with
  | none => rw [e] at h; exact h.elim
  | some t => rw [e] at h; exact h
theorem i_zip {Q : List Val → Store → Prop} (h : wpR (evalX K a env st) (fun x s => wpR (evalX K b env s) (fun y s => wpR (frzV x s) (fun x s => wpR (frzV y s) (fun y s => wpO (zipV x y) fun vs => Q vs s) E) E) E) E) : wpR (evalI K (.zip a b) env st) Q E := by
  rw [evalI]
  refine wp_bind (h.imp fun x s h => wp_bind (h.imp fun y s h => wp_bind (h.imp fun x s h => wp_bind (h.imp fun y s h => ?_))))
  cases e : zipV x y with
  | none => rw [e] at h; exact h.elim
  | some t => rw [e] at h; exact h
theorem i_cons {Q : List Val → Store → Prop} (h : wpR (evalX K a env st) (fun x s => wpR (frzV x s) (fun x s => wpO (itemsF x) fun vs => Q vs s) E) E) : wpR (evalI K (.cons a b) env st) Q E := by
  rw [evalI]
  refine wp_bind (h.imp fun x s h => wp_bind (h.imp fun x s h => ?_))
  cases e : itemsF x with
  | none => rw [e] at h; exact h.elim
  | some t => rw [e] at h; exact h
theorem frz_p {Q : Val → Store → Prop} (q : Q (.p d) st) : wpR (frzV (.p d) st) Q E := q
theorem frz_r {k : Nat} {c : Cell} (h : st[k]? = some c) (h2 : seeC c = some d) (q : Q (.p d) (st.set k (.fz d))) : wpR (frzV (.r k) st) Q E := by unfold frzV; simp only [h, h2]; exact q
/-- comprehensions: by an invariant over the items left -/
theorem lcGo_inv {turn : Val → Store → R (Option Val)} {Q : List Val → Store → Prop} (J : List Val → List Val → Store → Prop)
    (h0 : ∀ acc s, J [] acc s → Q acc s)
    (h1 : ∀ v vs acc s, J (v :: vs) acc s → wpR (turn v s) (fun o s1 => match o with | some x => J vs (acc ++ [x]) s1 | none => J vs acc s1) (fun _ _ _ => False)) :
    ∀ (items acc : List Val) (s : Store), J items acc s → wpR (lcGo turn items acc s) Q E
  | [], acc, s, j => h0 acc s j
  | v :: vs, acc, s, j => by
    have t := h1 v vs acc s j
    unfold lcGo
    cases e : turn v s with
    | ok o s1 =>
      rw [e] at t
      cases o with
      | some x => exact lcGo_inv J h0 h1 vs _ s1 t
      | none => exact lcGo_inv J h0 h1 vs _ s1 t
    | er c fs s1 => rw [e] at t; exact t.elim
    | no => rw [e] at t; exact t.elim
theorem x_lc {f : Nat} {is : List Nat} {it c e : Ex} (J : List Val → List Val → Store → Prop) (h : wpR (evalI K it env st) (fun items s => J items [] s) E)
    (h1 : ∀ v vs acc s, J (v :: vs) acc s → wpO (bindV s is v env) fun env1 => wpR (evalT K c env1 s) (fun t s1 => wpB t (wpR (evalX K e env1 s1) (fun x s2 => J vs (acc ++ [x]) s2) (fun _ _ _ => False)) (J vs acc s1)) (fun _ _ _ => False))
    (h0 : ∀ acc s, J [] acc s → acc.length ≤ SZ ∧ wpR (alloc f acc s) Q E) : wpR (evalX K (.lc f is it c e) env st) Q E := by
  rw [evalX]
  refine wp_bind (h.imp fun items s j => ?_)
  refine wp_bind (lcGo_inv J (fun acc s j => ?_) (fun v vs acc s j => ?_) items [] s j)
  · rw [if_pos (h0 acc s j).1]; exact (h0 acc s j).2
  · have k := h1 v vs acc s j
    cases e1 : bindV s is v env with
    | none => rw [e1] at k; exact k.elim
    | some env1 =>
      rw [e1] at k
      refine wp_bind (wpR.imp k fun t s1 q => ?_)
      cases t with
      | true => exact wp_bind (wpR.imp (q.1 rfl) fun x s2 q => q)
      | false => exact q.2 rfl
end
section
variable {K : Kit} {fl : Nat → List Str} {x : Ex} {m m' : Sm} {env : Env} {st : Store} {D : FK}
theorem s_skip (q : D.nx env st) : wpF (execS K fl .skip env st) D := by rw [execS]; exact q
theorem s_seq (h : wpF (execS K fl m env st) { D with nx := fun e s => wpF (execS K fl m' e s) D }) : wpF (execS K fl (.seq m m') env st) D := by
  rw [execS]
  revert h
  cases execS K fl m env st <;> exact fun h => h
theorem s_asg {i : Nat} (h : wpR (evalX K x env st) (fun v s => D.nx (env.set i (some v)) s) (fun c fs s => D.er c fs env s)) : wpF (execS K fl (.asg (.n i) x) env st) D := by
  rw [execS]; exact wp_fl h
theorem s_asgT {is : List Nat} (h : wpR (evalX K x env st) (fun v s => wpO (bindV s is v env) fun e1 => D.nx e1 s) (fun c fs s => D.er c fs env s)) : wpF (execS K fl (.asg (.t is) x) env st) D := by
  rw [execS]
  refine wp_fl (h.imp fun v s h => ?_)
  simp only
  cases e : bindV s is v env with
  | none => rw [e] at h; exact h.elim
  | some t => rw [e] at h; exact h
theorem s_sub {a i : Ex} (h : wpR (evalX K x env st) (fun v s => wpR (evalX K a env s) (fun x s => wpR (evalX K i env s) (fun y s => ∃ k j c, x = .r k ∧ y = .p j ∧ s[k]? = some c ∧ wpO (putC c j v) fun c' => D.nx env (s.set k c')) (fun c fs s => D.er c fs env s)) (fun c fs s => D.er c fs env s)) (fun c fs s => D.er c fs env s)) : wpF (execS K fl (.asg (.sub a i) x) env st) D := by
  rw [execS]
  refine wp_fl (h.imp fun v s h => wp_fl (wpR.imp h fun y s h => wp_fl (wpR.imp h fun z s ⟨k, j, c, e1, e2, e3, hq⟩ => ?_)))
  subst e1 e2
  simp only [e3]
  cases e : putC c j v with
  | none => rw [e] at hq; exact hq.elim
  | some t => rw [e] at hq; exact hq
theorem s_ex (h : wpR (evalX K x env st) (fun _ s => D.nx env s) (fun c fs s => D.er c fs env s)) : wpF (execS K fl (.ex x) env st) D := by rw [execS]; exact wp_fl h
theorem s_ret (h : wpR (evalX K x env st) (fun v s => D.rt v s) (fun c fs s => D.er c fs env s)) : wpF (execS K fl (.ret x) env st) D := by rw [execS]; exact wp_fl h
theorem s_ife (h : wpR (evalT K x env st) (fun t s => wpB t (wpF (execS K fl m env s) D) (wpF (execS K fl m' env s) D)) (fun c fs s => D.er c fs env s)) : wpF (execS K fl (.ife x m m') env st) D := by
  rw [execS]
  refine wp_fl (h.imp fun t s h => ?_)
  cases t with
  | true => exact h.1 rfl
  | false => exact h.2 rfl
theorem s_brk (q : D.bk env st) : wpF (execS K fl .brk env st) D := by rw [execS]; exact q
theorem s_cnt (q : D.ct env st) : wpF (execS K fl .cnt env st) D := by rw [execS]; exact q
theorem forGo_inv {turn : Val → Env → Store → Fl} (J : List Val → Env → Store → Prop) (h0 : ∀ e s, J [] e s → D.nx e s)
    (h1 : ∀ v vs e s, J (v :: vs) e s → wpF (turn v e s) { D with nx := J vs, ct := J vs, bk := D.nx }) : ∀ (items : List Val) (e : Env) (s : Store), J items e s → wpF (forGo turn items e s) D
  | [], e, s, j => h0 e s j
  | v :: vs, e, s, j => by
    have t := h1 v vs e s j
    unfold forGo
    revert t
    cases turn v e s with
    | nx e1 s1 => exact fun t => forGo_inv J h0 h1 vs e1 s1 t
    | ct e1 s1 => exact fun t => forGo_inv J h0 h1 vs e1 s1 t
    | bk e1 s1 => exact fun t => t
    | rt v s1 => exact fun t => t
    | er c fs e1 s1 => exact fun t => t
    | no => exact fun t => t
theorem s_for {is : List Nat} {it : Ex} (J : List Val → Env → Store → Prop) (h : wpR (evalI K it env st) (fun items s => J items env s) (fun c fs s => D.er c fs env s))
    (h1 : ∀ v vs e s, J (v :: vs) e s → wpO (bindV s is v e) fun e1 => wpF (execS K fl m e1 s) { D with nx := J vs, ct := J vs, bk := D.nx }) (h0 : ∀ e s, J [] e s → D.nx e s) : wpF (execS K fl (.for_ is it m) env st) D := by
  rw [execS]
  refine wp_fl (h.imp fun items s j => forGo_inv J h0 (fun v vs e s j => ?_) items env s j)
  have k := h1 v vs e s j
  cases e1 : bindV s is v e with
  | none => rw [e1] at k; exact k.elim
  | some t => rw [e1] at k; exact k
theorem whGo_inv {test : Env → Store → R Bool} {turn : Env → Store → Fl} (J : Nat → Env → Store → Prop) 
    (h1 : ∀ n e s, J n e s → wpR (test e s) (fun t s1 => wpB t (∃ n', n = n' + 1 ∧ wpF (turn e s1) { D with nx := J n', ct := J n', bk := D.nx }) (D.nx e s1)) (fun c fs s1 => D.er c fs e s1)) : ∀ (n w : Nat) (e : Env) (s : Store), n < w → J n e s → wpF (whGo test turn w e s) D
  | _, 0, _, _, h, _ => absurd h (Nat.not_lt_zero _)
  | n, w + 1, e, s, h, j => by
    have k := h1 n e s j
    unfold whGo
    refine wp_fl (wpR.imp k fun t s1 q => ?_)
    cases t with
    | false => exact q.2 rfl
    | true =>
      obtain ⟨n', rfl, q'⟩ := q.1 rfl
      clear q
      revert q'
      simp only
      cases turn e s1 with
      | nx e1 s2 => exact fun q => whGo_inv J h1 n' w e1 s2 (by omega) q
      | ct e1 s2 => exact fun q => whGo_inv J h1 n' w e1 s2 (by omega) q
      | bk e1 s2 => exact fun q => q
      | rt v s2 => exact fun q => q
      | er c fs e1 s2 => exact fun q => q
      | no => exact fun q => q
theorem s_whl {x : Ex} (n : Nat) (J : Nat → Env → Store → Prop) (hn : n < K.wh) (h : J n env st)
    (h1 : ∀ n e s, J n e s → wpR (evalT K x e s) (fun t s1 => wpB t (∃ n', n = n' + 1 ∧ wpF (execS K fl m e s1) { D with nx := J n', ct := J n', bk := D.nx }) (D.nx e s1)) (fun c fs s1 => D.er c fs e s1)) : wpF (execS K fl (.whl x m) env st) D := by
  rw [execS]; exact whGo_inv J h1 n _ env st hn h
end
/-- cells lead to cells -/
def WFs (st : Store) : Prop := st.all (cellBelow st.length) = true
theorem wfs_take {st s1 : Store} (w : WFs st) (h : s1.take st.length = st) : (s1.take st.length).all (cellBelow st.length) = true := by rw [h]; exact w
/-- a def that hands out data and leaves the store -/
theorem f_pure {P : Pg} {n i : Nat} {d : Fn} {vs : List Val} {st : Store} {Q : Val → Store → Prop} {E : EK} (hd : P.fns i = some d) (hl : vs.length = d.np) (hk : d.keep = false) (wf : WFs st)
    (h : wpF (execS (kitOf P n) P.fields d.body (vs.map some ++ List.replicate (d.ns - d.np) none) st)
      { nx := fun _ s => s.take st.length = st ∧ Q (.p .none) st, rt := fun v s => s.take st.length = st ∧ ∃ d, (v = .p d ∨ ∃ k, v = .r k ∧ st.length ≤ k ∧ see s v = .p d) ∧ Q (.p d) st, er := fun c fs _ s => s.take st.length = st ∧ E c fs st }) :
    wpR (runF P (n + 1) i vs st) Q E := by
  rw [runF, hd]
  simp only
  rw [if_pos hl]
  have e : (⟨runF P n, P.con, P.sub, P.wh, P.isx, P.iso⟩ : Kit) = kitOf P n := rfl
  rw [e]
  revert h
  cases execS (kitOf P n) P.fields d.body (vs.map some ++ List.replicate (d.ns - d.np) none) st with
  | nx e1 s =>
    intro ⟨h, q⟩
    simp only
    unfold leave
    rw [hk]
    simp only
    rw [if_pos (wfs_take wf h), h]
    exact q
  | rt v s =>
    intro ⟨h, d, hv, q⟩
    simp only
    unfold leave
    rw [hk]
    simp only
    rw [if_pos (wfs_take wf h)]
    rcases hv with rfl | ⟨k, rfl, hk, hs⟩
    · simp only
      rw [h]
      exact q
    · simp only
      rw [if_neg (by omega), hs, h]
      exact q
  | er c fs e1 s =>
    intro ⟨h, q⟩
    simp only
    unfold leaveE
    rw [hk]
    simp only
    rw [if_pos (wfs_take wf h), h]
    exact q
  | bk e1 s => exact fun h => h.elim
  | ct e1 s => exact fun h => h.elim
  | no => exact fun h => h.elim
/-! ### more steps -/
def tyb (d : PyData) (t : Ty) : Bool := match tyD d t with
  | some b => b
  | none => false
theorem isi_p {K : Kit} {st : Store} {d : PyData} : ∀ {ts : List Ty}, ts.all isB = true → isiAny K st (.p d) ts = some (ts.any (tyb d))
  | [], _ => rfl
  | t :: ts, h => by
    rw [List.all_cons, Bool.and_eq_true] at h
    have ih := isi_p (K := K) (st := st) (d := d) h.2
    have e : isiV K st (.p d) t = some (tyb d t) := by
      unfold isiV
      simp only [see]
      rw [if_pos h.1]
      unfold tyb
      cases t <;> cases d <;> rfl
    unfold isiAny
    rw [e, List.any_cons]
    cases tyb d t with
    | true => rfl
    | false => simpa using ih
section
variable {K : Kit} {a b c : Ex} {env : Env} {st : Store} {Q : Val → Store → Prop} {E : EK}
/-- a value for sure, and the store as it was -/
def Is (K : Kit) (x : Ex) (env : Env) (st : Store) (v : Val) : Prop := evalX K x env st = .ok v st
theorem Is.of {x : Ex} {v : Val} (h : wpR (evalX K x env st) (fun w s => w = v ∧ s = st) (fun _ _ _ => False)) : Is K x env st v := by
  unfold Is
  revert h
  cases evalX K x env st with
  | ok w s => exact fun ⟨h1, h2⟩ => by rw [h1, h2]
  | er c fs s => exact fun h => h.elim
  | no => exact fun h => h.elim
theorem Is.wp {x : Ex} {v : Val} (h : Is K x env st v) (q : Q v st) : wpR (evalX K x env st) Q E := by
  unfold Is at h
  rw [h]
  exact q
theorem x_orB {t1 t2 : Bool} (h1 : Is K a env st (.p (.bool t1))) (h2 : t1 = false → Is K b env st (.p (.bool t2))) (q : Q (.p (.bool (t1 || t2))) st) : wpR (evalX K (.or a b) env st) Q E := by
  refine x_or (h1.wp (wpO_of (a := t1) rfl (wpB_mk (fun e => ?_) fun e => ?_)))
  · subst e; exact q
  · subst e; exact (h2 rfl).wp q
theorem x_andB {t1 t2 : Bool} (h1 : Is K a env st (.p (.bool t1))) (h2 : t1 = true → Is K b env st (.p (.bool t2))) (q : Q (.p (.bool (t1 && t2))) st) : wpR (evalX K (.and a b) env st) Q E := by
  refine x_and (h1.wp (wpO_of (a := t1) rfl (wpB_mk (fun e => ?_) fun e => ?_)))
  · subst e; exact (h2 rfl).wp q
  · subst e; exact q
theorem is_or {t1 t2 : Bool} (h1 : Is K a env st (.p (.bool t1))) (h2 : t1 = false → Is K b env st (.p (.bool t2))) : Is K (.or a b) env st (.p (.bool (t1 || t2))) := Is.of (x_orB h1 h2 ⟨rfl, rfl⟩)
theorem is_and {t1 t2 : Bool} (h1 : Is K a env st (.p (.bool t1))) (h2 : t1 = true → Is K b env st (.p (.bool t2))) : Is K (.and a b) env st (.p (.bool (t1 && t2))) := Is.of (x_andB h1 h2 ⟨rfl, rfl⟩)
theorem is_chnI {t1 t2 : Bool} {o o' : CmpO} {i j k : Int} (h1 : Is K a env st (.p (.int i))) (h2 : Is K b env st (.p (.int j))) (h3 : Is K c env st (.p (.int k))) (e1 : cmpD o (.int i) (.int j) = some t1) (e2 : cmpD o' (.int j) (.int k) = some t2) : Is K (.chn o o' a b c) env st (.p (.bool (t1 && t2))) := by
  refine Is.of (x_chn (h1.wp (h2.wp (wpO_of (a := t1) e1 (wpB_mk (fun e => h3.wp (wpO_of (a := t2) e2 ?_)) fun e => ?_)))))
  · rw [e]; exact ⟨rfl, rfl⟩
  · rw [e]; exact ⟨rfl, rfl⟩
/-- a comprehension whose element is reckoned without a store -/
theorem lcGo_map {turn : Val → Store → R (Option Val)} {f : Val → Val} : ∀ {items : List Val} {acc : List Val}, (∀ v ∈ items, turn v st = .ok (some (f v)) st) → lcGo turn items acc st = .ok (acc ++ items.map f) st
  | [], acc, _ => by unfold lcGo; simp
  | v :: vs, acc, h => by
    unfold lcGo
    rw [h v (List.mem_cons_self ..)]
    simp only
    rw [lcGo_map (fun w hw => h w (List.mem_cons_of_mem _ hw))]
    simp
theorem lcGo_filter {turn : Val → Store → R (Option Val)} {f : Val → Val} {p : Val → Bool} : ∀ {items : List Val} {acc : List Val}, (∀ v ∈ items, turn v st = .ok (if p v then some (f v) else none) st) → lcGo turn items acc st = .ok (acc ++ (items.filter p).map f) st
  | [], acc, _ => by unfold lcGo; simp
  | v :: vs, acc, h => by
    unfold lcGo
    rw [h v (List.mem_cons_self ..)]
    cases hp : p v with
    | true =>
      simp only [if_true]
      rw [lcGo_filter (fun w hw => h w (List.mem_cons_of_mem _ hw))]
      simp [hp]
    | false =>
      simp only [Bool.false_eq_true, if_false]
      rw [lcGo_filter (fun w hw => h w (List.mem_cons_of_mem _ hw))]
      simp [hp]
/-- [e for x in it] over data, one name, no test: data -/
theorem x_map {i : Nat} {it e : Ex} {f : PyData → PyData} (ds : List PyData) (h : wpR (evalI K it env st) (fun items s => items = ds.map .p ∧ s = st) (fun _ _ _ => False)) (hf : ∀ d ∈ ds, Is K e (env.set i (some (.p d))) st (.p (f d))) (hl : ds.length ≤ SZ)
    (q : Q (.p (.list (ds.map f))) st) : wpR (evalX K (.lc 0 [i] it .nil e) env st) Q E := by
  rw [evalX]
  have e1 : evalI K it env st = .ok (ds.map .p) st := by
    revert h
    cases evalI K it env st with
    | ok w s => exact fun ⟨h1, h2⟩ => by rw [h1, h2]
    | er c fs s => exact fun h => h.elim
    | no => exact fun h => h.elim
  rw [e1]
  simp only [R.bind_ok]
  rw [lcGo_map (f := fun v => match v with | .p d => .p (f d) | v => v) (fun v hv => ?_)]
  · simp only [R.bind_ok, List.nil_append]
    rw [if_pos (by simpa using hl)]
    have : (ds.map Val.p).map (fun v => match v with | .p d => .p (f d) | v => v) = (ds.map f).map Val.p := by simp
    rw [this]
    unfold alloc
    simp only [mkL_map]
    exact q
  · obtain ⟨d, hd, rfl⟩ := List.mem_map.mp hv
    have k := hf d hd
    unfold Is at k
    simp only [bindV, evalT, R.bind_ok, k]
/-- [e for x in it if c] over data -/
theorem x_flt {i : Nat} {it e c c' : Ex} {f : PyData → PyData} {p : PyData → Bool} (ds : List PyData) (h : wpR (evalI K it env st) (fun items s => items = ds.map .p ∧ s = st) (fun _ _ _ => False)) (hp : ∀ d ∈ ds, Is K c (env.set i (some (.p d))) st (.p (.bool (p d)))) (hf : ∀ d ∈ ds, p d = true → Is K e (env.set i (some (.p d))) st (.p (f d))) (hl : ds.length ≤ SZ)
    (q : Q (.p (.list ((ds.filter p).map f))) st) : wpR (evalX K (.lc 0 [i] it (.cons c c') e) env st) Q E := by
  rw [evalX]
  have e1 : evalI K it env st = .ok (ds.map .p) st := by
    revert h
    cases evalI K it env st with
    | ok w s => exact fun ⟨h1, h2⟩ => by rw [h1, h2]
    | er c fs s => exact fun h => h.elim
    | no => exact fun h => h.elim
  rw [e1]
  simp only [R.bind_ok]
  rw [lcGo_filter (f := fun v => match v with | .p d => .p (f d) | v => v) (p := fun v => match v with | .p d => p d | _ => false) (fun v hv => ?_)]
  · simp only [R.bind_ok, List.nil_append]
    have e2 : ((ds.map Val.p).filter (fun v => match v with | .p d => p d | _ => false)).map (fun v => match v with | .p d => .p (f d) | v => v) = ((ds.filter p).map f).map Val.p := by
      rw [List.filter_map, List.map_map, List.map_map]
      rfl
    rw [e2, if_pos (by
      rw [List.length_map, List.length_map]
      exact Nat.le_trans (List.length_filter_le _ _) hl)]
    unfold alloc
    simp only [mkL_map]
    exact q
  · obtain ⟨d, hd, rfl⟩ := List.mem_map.mp hv
    have k := hp d hd
    unfold Is at k
    simp only [bindV, evalT, R.bind_ok, k, see, truthV, truthD]
    cases z : p d with
    | true =>
      have k2 := hf d hd z
      unfold Is at k2
      simp only [k2, R.bind_ok, if_true]
    | false => simp
theorem i_lst {x : Ex} {b : Ex} {ds : List PyData} (h : Is K x env st (.p (.list ds))) : wpR (evalI K (.cons x b) env st) (fun items s => items = ds.map .p ∧ s = st) (fun _ _ _ => False) := i_cons (h.wp (frz_p (wpO_of rfl ⟨rfl, rfl⟩)))
theorem i_tup {x : Ex} {b : Ex} {ds : List PyData} (h : Is K x env st (.p (.tuple ds))) : wpR (evalI K (.cons x b) env st) (fun items s => items = ds.map .p ∧ s = st) (fun _ _ _ => False) := i_cons (h.wp (frz_p (wpO_of rfl ⟨rfl, rfl⟩)))
theorem i_str {x : Ex} {b : Ex} {z : Str} (h : Is K x env st (.p (.str z))) : wpR (evalI K (.cons x b) env st) (fun items s => items = (charsOf z).map .p ∧ s = st) (fun _ _ _ => False) := i_cons (h.wp (frz_p (wpO_of rfl ⟨rfl, rfl⟩)))
end
theorem eq_of {α : Type} {r : R α} {v : α} {st : Store} (h : wpR r (fun w s => w = v ∧ s = st) (fun _ _ _ => False)) : r = .ok v st := by
  revert h
  cases r with
  | ok w s => exact fun ⟨h1, h2⟩ => by rw [h1, h2]
  | er c fs s => exact fun h => h.elim
  | no => exact fun h => h.elim
theorem wp_eq {α : Type} {r : R α} {v : α} {st : Store} {Q : α → Store → Prop} {E : EK} (h : r = .ok v st) (q : Q v st) : wpR r Q E := by rw [h]; exact q
/-- what a def hands out, the store as it was -/
theorem f_is {P : Pg} {n i : Nat} {d : Fn} {vs : List Val} {st : Store} {r : PyData} (hd : P.fns i = some d) (hl : vs.length = d.np) (hk : d.keep = false) (wf : WFs st)
    (h : wpF (execS (kitOf P n) P.fields d.body (vs.map some ++ List.replicate (d.ns - d.np) none) st)
      { nx := fun _ s => s.take st.length = st ∧ r = .none, rt := fun v s => s.take st.length = st ∧ (v = .p r ∨ ∃ k, v = .r k ∧ st.length ≤ k ∧ see s v = .p r) }) :
    runF P (n + 1) i vs st = .ok (.p r) st := by
  refine eq_of (f_pure hd hl hk wf ?_)
  revert h
  cases execS (kitOf P n) P.fields d.body (vs.map some ++ List.replicate (d.ns - d.np) none) st with
  | nx e s => exact fun ⟨h, e⟩ => ⟨h, by rw [e], rfl⟩
  | rt v s => exact fun ⟨h, e⟩ => ⟨h, r, e, rfl, rfl⟩
  | er c fs e s => exact fun h => h.elim
  | bk e1 s => exact fun h => h.elim
  | ct e1 s => exact fun h => h.elim
  | no => exact fun h => h.elim
theorem is_call {P : Pg} {n f : Nat} {es : Ex} {env : Env} {st : Store} {vs : List Val} {v : Val} (h1 : evalL (kitOf P n) es env st = .ok vs st) (h2 : runF P n f vs st = .ok v st) : Is (kitOf P n) (.call f es) env st v := by
  unfold Is
  rw [evalX, h1]
  exact h2
end Vm
end

section
/-! V41: steps in short. -/
namespace Vm
open PySem
local macro_rules | `(tactic| walk_at "x1") => `(tactic| first
  | (with_reducible refine x_var ?_ ?_; exact rfl) | (with_reducible refine x_con ?_) | (with_reducible refine x_glo ?_ ?_; exact rfl) | (with_reducible refine x_bin ?_) | (with_reducible refine x_and ?_) | (with_reducible refine x_or ?_) | (with_reducible refine x_not ?_)
  | (with_reducible refine x_ite ?_) | (with_reducible refine x_cmp ?_) | (with_reducible refine x_chn ?_) | (with_reducible refine x_tup ?_) | (with_reducible refine x_lst ?_) | (with_reducible refine x_idx ?_) | (with_reducible refine x_slc ?_) | (with_reducible refine x_call ?_) | (with_reducible refine x_callk ?_)
  | (with_reducible refine x_bi ?_) | (with_reducible refine x_mth ?_) | (with_reducible refine x_isi ?_) | (with_reducible refine l_nil ?_) | (with_reducible refine l_cons ?_) | (with_reducible refine o_nil ?_) | (with_reducible refine o_some ?_) | (with_reducible refine t_nil ?_) | (with_reducible refine t_some ?_)
  | (with_reducible refine s_skip ?_) | (with_reducible refine s_seq ?_) | (with_reducible refine s_asg ?_) | (with_reducible refine s_asgT ?_) | (with_reducible refine s_ex ?_) | (with_reducible refine s_ret ?_) | (with_reducible refine s_ife ?_)
  | (with_reducible refine wpO_of ?_ ?_; exact rfl) | (with_reducible refine wpO_of (isi_p ?_) ?_; exact rfl))
local macro_rules | `(tactic| walk_at "xs") => `(tactic| repeat (walk_at "x1"; try dsimp only))
local macro_rules | `(tactic| walk_at "is") => `(tactic| (refine Is.of ?_; walk_at "xs"; exact ⟨rfl, rfl⟩))
theorem boolsOf_map {α : Type} (f : α → Bool) : ∀ l : List α, boolsOf (l.map fun a => PyData.bool (f a)) = some (l.map f)
  | [] => rfl
  | a :: l => by simp [boolsOf, boolsOf_map f l]
theorem all_bools {α : Type} (f : α → Bool) (l : List α) : biD .all (.list (l.map fun a => PyData.bool (f a))) = some (.bool (l.all f)) := by
  simp [biD, boolsOf_map, List.all_map]
theorem any_bools {α : Type} (f : α → Bool) (l : List α) : biD .any (.list (l.map fun a => PyData.bool (f a))) = some (.bool (l.any f)) := by
  simp [biD, boolsOf_map, List.any_map]
theorem in_sign (c : Nat) (z : Str) : inD (.str ⟨#[c]⟩) (.str z) = some (decide (c ∈ z.cps.toList)) := by
  show some _ = _
  rw [StrLaws.found_one]
abbrev dot : Str := "."
theorem dot_tl : TL.tl dot = [46] := by decide +kernel
theorem split_le (x y : Str) : (Txt.split x y).length ≤ x.length + 2 := PyProof.Rows.split_le x y
theorem isD_split {K : Kit} {a : Ex} {env : Vm.Env} {st : Store} {s b : Str} (ha : Is K a env st (.p (.str s))) (hb : (b.length == 0) = false) (h : s.length + 2 ≤ SZ) : Is K (.mth .split a (.cons (.con (.str b)) .nil)) env st (.p (.list ((Txt.split s b).map .str))) := by
  refine Is.of (x_mth (ha.wp ⟨.str, rfl, rfl, l_cons (x_con (l_nil ?_))⟩))
  show wpR (R.of ((mtP .split (.str s) [.str b]).map Val.p) st) _ _
  refine wp_of (wpO_of (a := .p (.list ((Txt.split s b).map .str))) ?_ ⟨rfl, rfl⟩)
  show (if (b.length == 0) = false ∧ s.length + 2 ≤ SZ then some (PyData.list ((Txt.split s b).map .str)) else none).map Val.p = _
  rw [if_pos ⟨hb, h⟩]
  rfl
theorem split_mem {s b : Str} {w : Str} (hy : TL.tl b ≠ []) (hk : b.cps.all (· < 256) = true) (h : w ∈ Txt.split s b) : w.length ≤ s.length := by
  have j := StrLaws.join_split s b
  have : ∀ (l : List Str) (w : Str), w ∈ l → w.length ≤ (Str.join b l).length := by
    intro l
    induction l with
    | nil => intro w h; cases h
    | cons x l ih =>
      intro w h
      cases l with
      | nil =>
        rcases List.mem_cons.mp h with rfl | h
        · exact Nat.le_refl _
        · cases h
      | cons y l =>
        have e : (Str.join b (x :: y :: l)).length = x.length + b.length + (Str.join b (y :: l)).length := by
          show (x ++ b ++ Str.join b (y :: l)).length = _
          simp only [Str.length, Str.cps_append, Array.size_append]
        rcases List.mem_cons.mp h with rfl | h
        · omega
        · have := ih w h
          omega
  have k := this _ w h
  rw [j] at k
  exact k
theorem len_list {K : Kit} {a : Ex} {env : Vm.Env} {st : Store} {ds : List PyData} (ha : Is K a env st (.p (.list ds))) : Is K (.bi .len (.cons a .nil)) env st (.p (.int ds.length)) := Is.of (x_bi (l_cons (ha.wp (l_nil (wpO_of (a := .p (.int ds.length)) rfl ⟨rfl, rfl⟩)))))
theorem len_tup {K : Kit} {a : Ex} {env : Vm.Env} {st : Store} {ds : List PyData} (ha : Is K a env st (.p (.tuple ds))) : Is K (.bi .len (.cons a .nil)) env st (.p (.int ds.length)) := Is.of (x_bi (l_cons (ha.wp (l_nil (wpO_of (a := .p (.int ds.length)) rfl ⟨rfl, rfl⟩)))))
theorem len_str {K : Kit} {a : Ex} {env : Vm.Env} {st : Store} {s : Str} (ha : Is K a env st (.p (.str s))) (h : s.length ≤ SZ) : Is K (.bi .len (.cons a .nil)) env st (.p (.int s.length)) := Is.of (x_bi (l_cons (ha.wp (l_nil (wpO_of (a := .p (.int s.length)) (by
  show (biD .len (.str s)).map Val.p = _
  unfold biD
  simp only
  rw [if_pos h]
  rfl) ⟨rfl, rfl⟩)))))
theorem is_cmpI {K : Kit} {a b : Ex} {env : Vm.Env} {st : Store} {o : CmpO} {i j : Int} {t : Bool} (h1 : Is K a env st (.p (.int i))) (h2 : Is K b env st (.p (.int j))) (e : cmpD o (.int i) (.int j) = some t) : Is K (.cmp o a b) env st (.p (.bool t)) := Is.of (x_cmp (h1.wp (h2.wp (wpO_of (a := t) e ⟨rfl, rfl⟩))))
theorem eq_ints (i j : Int) : cmpD .eq (.int i) (.int j) = some (i == j) := by simp [cmpD, eqD, flat2, PyData.eqv]
theorem eq_strs (a b : Str) : cmpD .eq (.str a) (.str b) = some (a == b) := by simp [cmpD, eqD, flat2, PyData.eqv]
theorem is_eqS {K : Kit} {a b : Ex} {env : Vm.Env} {st : Store} {x y : Str} (h1 : Is K a env st (.p (.str x))) (h2 : Is K b env st (.p (.str y))) : Is K (.cmp .eq a b) env st (.p (.bool (x == y))) := Is.of (x_cmp (h1.wp (h2.wp (wpO_of (a := x == y) (eq_strs x y) ⟨rfl, rfl⟩))))
theorem is_eqI {K : Kit} {a b : Ex} {env : Vm.Env} {st : Store} {x y : Int} (h1 : Is K a env st (.p (.int x))) (h2 : Is K b env st (.p (.int y))) : Is K (.cmp .eq a b) env st (.p (.bool (x == y))) := Is.of (x_cmp (h1.wp (h2.wp (wpO_of (a := x == y) (eq_ints x y) ⟨rfl, rfl⟩))))
/-- all([f(x) for x in ds]) -/
theorem is_all {K : Kit} {it e : Ex} {env : Vm.Env} {st : Store} {i : Nat} {f : PyData → Bool} {ds : List PyData} (h : wpR (evalI K it env st) (fun items s => items = ds.map .p ∧ s = st) (fun _ _ _ => False)) (hf : ∀ d ∈ ds, Is K e (env.set i (some (.p d))) st (.p (.bool (f d)))) (hl : ds.length ≤ SZ) :
    Is K (.bi .all (.cons (.lc 0 [i] it .nil e) .nil)) env st (.p (.bool (ds.all f))) := by
  refine Is.of (x_bi (l_cons (x_map (f := fun d => .bool (f d)) ds h hf hl (l_nil (wpO_of (a := .p (.bool (ds.all f))) ?_ ⟨rfl, rfl⟩)))))
  show (biD .all (.list _)).map Val.p = _
  rw [all_bools]
  rfl
theorem is_1 {P : Pg} {n f : Nat} {a : Ex} {env : Vm.Env} {st : Store} {v r : Val} (h1 : Is (kitOf P n) a env st v) (h2 : runF P n f [v] st = .ok r st) : Is (kitOf P n) (.call f (.cons a .nil)) env st r := is_call (vs := [v]) (eq_of (l_cons (h1.wp (l_nil ⟨rfl, rfl⟩)))) h2
theorem is_2 {P : Pg} {n f : Nat} {a b : Ex} {env : Vm.Env} {st : Store} {v w r : Val} (h1 : Is (kitOf P n) a env st v) (h0 : Is (kitOf P n) b env st w) (h2 : runF P n f [v, w] st = .ok r st) : Is (kitOf P n) (.call f (.cons a (.cons b .nil))) env st r := is_call (vs := [v, w]) (eq_of (l_cons (h1.wp (l_cons (h0.wp (l_nil ⟨rfl, rfl⟩)))))) h2
theorem all_strs (l : List Str) (f : PyData → Bool) (g : Str → Bool) (h : ∀ s, f (.str s) = g s) : (l.map PyData.str).all f = l.all g := by
  rw [List.all_map]
  congr 1
  funext s
  exact h s
/-- return of what is reckoned -/
theorem ret_is {K : Kit} {fl : Nat → List Str} {x : Ex} {env : Vm.Env} {st : Store} {D : FK} {v : Val} (h : Is K x env st v) (q : D.rt v st) : wpF (execS K fl (.ret x) env st) D := s_ret (h.wp q)
theorem if_is {K : Kit} {fl : Nat → List Str} {x b : Ex} {m m' : Sm} {env : Vm.Env} {st : Store} {D : FK} {t : Bool} (h : Is K x env st (.p (.bool t))) (h1 : t = true → wpF (execS K fl m env st) D) (h2 : t = false → wpF (execS K fl m' env st) D) : wpF (execS K fl (.ife (.cons x b) m m') env st) D :=
  s_ife (t_some (h.wp (wpO_of (a := t) rfl (wpB_mk h1 h2))))
theorem asg_is {K : Kit} {fl : Nat → List Str} {x : Ex} {i : Nat} {env : Vm.Env} {st : Store} {D : FK} {v : Val} (h : Is K x env st v) (q : D.nx (env.set i (some v)) st) : wpF (execS K fl (.asg (.n i) x) env st) D := s_asg (h.wp q)
theorem isD_lstrip {K : Kit} {a : Ex} {env : Vm.Env} {st : Store} {s b : Str} (ha : Is K a env st (.p (.str s))) (h : s.length ≤ SZ) : Is K (.mth .lstrip a (.cons (.con (.str b)) .nil)) env st (.p (.str (Txt.lstripChars s b))) := by
  refine Is.of (x_mth (ha.wp ⟨.str, rfl, rfl, l_cons (x_con (l_nil ?_))⟩))
  show wpR (R.of ((mtP .lstrip (.str s) [.str b]).map Val.p) st) _ _
  refine wp_of (wpO_of (a := .p (.str (Txt.lstripChars s b))) ?_ ⟨rfl, rfl⟩)
  show (if s.length ≤ SZ then some (PyData.str (Txt.lstripChars s b)) else none).map Val.p = _
  rw [if_pos h]
  rfl
theorem lstrip_le (x y : Str) : (Txt.lstripChars x y).length ≤ x.length := PyProof.Rows.len_lstripChars x y
theorem is_sub {K : Kit} {a b : Ex} {env : Vm.Env} {st : Store} {i j : Int} (h1 : Is K a env st (.p (.int i))) (h2 : Is K b env st (.p (.int j))) : Is K (.bin .sub a b) env st (.p (.int (i - j))) := Is.of (x_bin (h1.wp (h2.wp (wpO_of (a := .p (.int (i - j))) rfl ⟨rfl, rfl⟩))))
theorem is_add {K : Kit} {a b : Ex} {env : Vm.Env} {st : Store} {i j : Int} (h1 : Is K a env st (.p (.int i))) (h2 : Is K b env st (.p (.int j))) : Is K (.bin .add a b) env st (.p (.int (i + j))) := Is.of (x_bin (h1.wp (h2.wp (wpO_of (a := .p (.int (i + j))) rfl ⟨rfl, rfl⟩))))
theorem is_not {K : Kit} {a : Ex} {env : Vm.Env} {st : Store} {t : Bool} (h1 : Is K a env st (.p (.bool t))) : Is K (.not a) env st (.p (.bool (!t))) := Is.of (x_not (h1.wp (wpO_of (a := t) rfl ⟨rfl, rfl⟩)))
theorem is_isi {K : Kit} {a : Ex} {env : Vm.Env} {st : Store} {d : PyData} {ts : List Ty} (h1 : Is K a env st (.p d)) (h : ts.all isB = true) : Is K (.isi a ts) env st (.p (.bool (ts.any (tyb d)))) := Is.of (x_isi (h1.wp (wpO_of (isi_p h) ⟨rfl, rfl⟩)))
theorem is_var {K : Kit} {env : Vm.Env} {st : Store} {i : Nat} {v : Val} (h : env[i]? = some (some v)) : Is K (.var i) env st v := Is.of (x_var h ⟨rfl, rfl⟩)
theorem is_con {K : Kit} {env : Vm.Env} {st : Store} {d : PyData} : Is K (.con d) env st (.p d) := Is.of (x_con ⟨rfl, rfl⟩)
theorem is_glo {K : Kit} {env : Vm.Env} {st : Store} {g : Nat} {d : PyData} (h : K.con g = some d) : Is K (.glo g) env st (.p d) := Is.of (x_glo h ⟨rfl, rfl⟩)
mutual
/-- nothing in it is long -/
def tame : PyData → Bool
  | .str s => decide (s.length ≤ 4096)
  | .list ds => decide (ds.length ≤ 4096) && tameL ds
  | .tuple ds => decide (ds.length ≤ 4096) && tameL ds
  | _ => true
def tameL : List PyData → Bool
  | [] => true
  | d :: ds => tame d && tameL ds
end
theorem tameL_mem : ∀ {ds : List PyData}, tameL ds = true → ∀ d ∈ ds, tame d = true
  | d :: ds, h, e, he => by
    rw [tameL, Bool.and_eq_true] at h
    rcases List.mem_cons.mp he with rfl | he
    · exact h.1
    · exact tameL_mem h.2 e he
theorem tameL_of : ∀ {ds : List PyData}, (∀ d ∈ ds, tame d = true) → tameL ds = true
  | [], _ => by rw [tameL]
  | d :: ds, h => by rw [tameL, h d (List.mem_cons_self ..), tameL_of fun e he => h e (List.mem_cons_of_mem _ he)]; rfl
theorem tame_str {s : Str} (h : tame (.str s) = true) : s.length ≤ 4096 := by rw [tame, decide_eq_true_eq] at h; exact h
theorem tame_tup {ds : List PyData} (h : tame (.tuple ds) = true) : ds.length ≤ 4096 ∧ ∀ d ∈ ds, tame d = true := by
  rw [tame, Bool.and_eq_true, decide_eq_true_eq] at h
  exact ⟨h.1, tameL_mem h.2⟩
theorem tame_list {ds : List PyData} (h : tame (.list ds) = true) : ds.length ≤ 4096 ∧ ∀ d ∈ ds, tame d = true := by
  rw [tame, Bool.and_eq_true, decide_eq_true_eq] at h
  exact ⟨h.1, tameL_mem h.2⟩
theorem tame_mk {ds : List PyData} (h : ds.length ≤ 4096) (h2 : ∀ d ∈ ds, tame d = true) : tame (.tuple ds) = true := by
  rw [tame, Bool.and_eq_true, decide_eq_true_eq]
  exact ⟨h, tameL_of h2⟩
theorem SZ4 : 4096 + 4 ≤ SZ := by decide
theorem tame_s {d : PyData} (h : tame d = true) (s : Str) (e : d = .str s) : s.length + 2 ≤ SZ := by
  subst e
  have := tame_str h
  have := SZ4
  omega
theorem idx_tup {st : Store} {ds : List PyData} {j : Nat} {d : PyData} (h : ds[j]? = some d) : idxV st (.p (.tuple ds)) (.p (.int (j : Int))) = some (.p d) := by
  show (idxD (.tuple ds) (.int (j : Int))).map Val.p = _
  unfold idxD atL
  simp only
  rw [L2.atI_nat h]
  rfl
theorem idx_list {st : Store} {ds : List PyData} {j : Nat} {d : PyData} (h : ds[j]? = some d) : idxV st (.p (.list ds)) (.p (.int (j : Int))) = some (.p d) := by
  show (idxD (.list ds) (.int (j : Int))).map Val.p = _
  unfold idxD atL
  simp only
  rw [L2.atI_nat h]
  rfl
theorem is_tup {K : Kit} {a : Ex} {env : Vm.Env} {st : Store} {ds : List PyData} {d : PyData} (j : Nat) (h1 : Is K a env st (.p (.tuple ds))) (h : ds[j]? = some d) : Is K (.idx a (.con (.int (j : Int)))) env st (.p d) := Is.of (x_idx (h1.wp (x_con (wpO_of (a := .p d) (idx_tup h) ⟨rfl, rfl⟩))))
theorem is_list {K : Kit} {a : Ex} {env : Vm.Env} {st : Store} {ds : List PyData} {d : PyData} (j : Nat) (h1 : Is K a env st (.p (.list ds))) (h : ds[j]? = some d) : Is K (.idx a (.con (.int (j : Int)))) env st (.p d) := Is.of (x_idx (h1.wp (x_con (wpO_of (a := .p d) (idx_list h) ⟨rfl, rfl⟩))))
theorem shaped_nil : SeqAt.shaped (.list []) = true := by decide +kernel
theorem eq_nilL (ds : List PyData) : eqD (.list ds) (.list []) = some ds.isEmpty := by
  unfold eqD
  rw [if_neg (by simp [flat2])]
  cases ds with
  | nil => rw [if_pos ⟨shaped_nil, shaped_nil⟩]; rfl
  | cons d ds =>
    split
    · rfl
    · rfl
theorem shaped_nilT : SeqAt.shaped (.tuple []) = true := by decide +kernel
theorem eq_nilT (ds : List PyData) : eqD (.tuple ds) (.tuple []) = some ds.isEmpty := by
  unfold eqD
  rw [if_neg (by simp [flat2])]
  cases ds with
  | nil => rw [if_pos ⟨shaped_nilT, shaped_nilT⟩]; rfl
  | cons d ds =>
    split
    · rfl
    · rfl
theorem is_eqNil {K : Kit} {a : Ex} {env : Vm.Env} {st : Store} {ds : List PyData} (h1 : Is K a env st (.p (.list ds))) : Is K (.cmp .eq a (.lst 0 .nil)) env st (.p (.bool ds.isEmpty)) := Is.of (x_cmp (h1.wp (x_lst (l_nil ⟨by decide, wpO_of (a := ds.isEmpty) (eq_nilL ds) ⟨rfl, rfl⟩⟩))))
theorem is_lst {K : Kit} {es : Ex} {env : Vm.Env} {st : Store} {ds : List PyData} (h : evalL K es env st = .ok (ds.map .p) st) (hl : ds.length ≤ SZ) : Is K (.lst 0 es) env st (.p (.list ds)) := by
  refine Is.of (x_lst (wp_eq h ⟨by simpa using hl, ?_⟩))
  unfold alloc
  simp only [mkL_map]
  exact ⟨rfl, rfl⟩
theorem is_tupE {K : Kit} {es : Ex} {env : Vm.Env} {st : Store} {ds : List PyData} (h : evalL K es env st = .ok (ds.map .p) st) (hl : ds.length ≤ SZ) : Is K (.tup es) env st (.p (.tuple ds)) := by
  refine Is.of (x_tup (wp_eq h ⟨by simpa using hl, ?_⟩))
  rw [mkT_map]
  exact ⟨rfl, rfl⟩
theorem is_addL {K : Kit} {a b : Ex} {env : Vm.Env} {st : Store} {xs ys : List PyData} (h1 : Is K a env st (.p (.list xs))) (h2 : Is K b env st (.p (.list ys))) (h : xs.length + ys.length ≤ SZ) : Is K (.bin .add a b) env st (.p (.list (xs ++ ys))) := Is.of (x_bin (h1.wp (h2.wp (wpO_of (a := .p (.list (xs ++ ys))) (by
  show (binD .add (.list xs) (.list ys)).map Val.p = _
  unfold binD
  simp only
  rw [if_pos h]
  rfl) ⟨rfl, rfl⟩))))
theorem is_inL {K : Kit} {a b : Ex} {env : Vm.Env} {st : Store} {d : PyData} {ds : List PyData} (h1 : Is K a env st (.p d)) (h2 : Is K b env st (.p (.list ds))) (f1 : flatD d = true) (f2 : ds.all flatD = true) : Is K (.cmp .isin a b) env st (.p (.bool (ds.any fun z => PyData.eqv z d))) := Is.of (x_cmp (h1.wp (h2.wp (wpO_of (a := ds.any fun z => PyData.eqv z d) (by
  show inD d (.list ds) = _
  unfold inD
  simp only
  rw [if_pos (.inl ⟨f1, f2⟩)]) ⟨rfl, rfl⟩))))
/-- [x for x in it if c] -/
theorem is_flt {K : Kit} {it c c' : Ex} {env : Vm.Env} {st : Store} {i : Nat} {p : PyData → Bool} (ds : List PyData) (h : wpR (evalI K it env st) (fun items s => items = ds.map .p ∧ s = st) (fun _ _ _ => False)) (hp : ∀ d ∈ ds, Is K c (env.set i (some (.p d))) st (.p (.bool (p d)))) (hi : i < env.length) (hl : ds.length ≤ SZ) :
    Is K (.lc 0 [i] it (.cons c c') (.var i)) env st (.p (.list (ds.filter p))) := by
  refine Is.of (x_flt (f := fun d => d) (p := p) ds h hp (fun d hd _ => is_var (by simp [hi])) hl ?_)
  simp
theorem isEmpty_filter {α : Type} (l : List α) (p : α → Bool) : (l.filter fun a => !p a).isEmpty = l.all p := by
  induction l with
  | nil => rfl
  | cons a l ih =>
    rw [List.filter_cons, List.all_cons]
    cases h : p a with
    | true => simp [ih]
    | false => simp
mutual
theorem below_mono {n m : Nat} (h : n ≤ m) : ∀ v : Val, below n v = true → below m v = true
  | .p _, _ => by rw [below]
  | .r k, q => by
    rw [below, decide_eq_true_eq] at q ⊢
    omega
  | .t xs, q => by
    rw [below] at q ⊢
    exact belowL_mono h xs q
  | .l xs, q => by
    rw [below] at q ⊢
    exact belowL_mono h xs q
  | .x _ _, _ => by rw [below]
theorem belowL_mono {n m : Nat} (h : n ≤ m) : ∀ vs : List Val, belowL n vs = true → belowL m vs = true
  | [], _ => by rw [belowL]
  | v :: vs, q => by
    rw [belowL, Bool.and_eq_true] at q ⊢
    exact ⟨below_mono h v q.1, belowL_mono h vs q.2⟩
end
theorem cell_mono {n m : Nat} (h : n ≤ m) : ∀ c : Cell, cellBelow n c = true → cellBelow m c = true
  | .pl _, _ => rfl
  | .ml vs, q => belowL_mono h vs q
  | .pd _, _ => rfl
  | .md kvs, q => belowL_mono h _ q
  | .ob _ fs, q => belowL_mono h _ q
  | .fz _, _ => rfl
  | .lk c, q => cell_mono h c q
theorem WFs.app {st ext : Store} (w : WFs st) (h : ext.all (cellBelow (st.length + ext.length)) = true) : WFs (st ++ ext) := by
  unfold WFs
  rw [List.length_append, List.all_append, h, Bool.and_true, List.all_eq_true]
  intro c hc
  exact cell_mono (Nat.le_add_right _ _) c (List.all_eq_true.mp w c hc)
theorem x_append {K : Kit} {es : Ex} {env : Vm.Env} {s : Store} {i k : Nat} {ds : List PyData} {d : PyData} {Q : Val → Store → Prop} {E : EK} (he : env[i]? = some (some (.r k))) (hk : s[k]? = some (.pl ds)) (h : Is K es env s (.p d)) (hl : ds.length < SZ) (q : Q (.p .none) (s.set k (.pl (ds ++ [d])))) : wpR (evalX K (.mth .append (.var i) (.cons es .nil)) env s) Q E := by
  refine x_mth (x_var he ⟨.list, ?_, rfl, l_cons (h.wp (l_nil ?_))⟩)
  · unfold mkind see
    simp only [hk, seeC]
  · unfold mtV
    simp only [hk, mtC]
    rw [if_pos hl]
    exact q
theorem see_rd {s : Store} {k : Nat} {c : Cell} {d : PyData} (h : s[k]? = some c) (h2 : seeC c = some d) : see s (.r k) = .p d := by
  unfold see
  simp only [h, h2]
theorem for_cons {K : Kit} {fl : Nat → List Str} {turn : Val → Vm.Env → Store → Fl} {v : Val} {vs : List Val} {e : Vm.Env} {s : Store} {D : FK} (h : wpF (turn v e s) { D with nx := fun e s => wpF (forGo turn vs e s) D, ct := fun e s => wpF (forGo turn vs e s) D, bk := D.nx }) : wpF (forGo turn (v :: vs) e s) D := by
  unfold forGo
  revert h
  cases turn v e s <;> exact fun h => h
theorem mtV_r {m : Mt} {s : Store} {k : Nat} {c c' : Cell} {v : Val} {vs : List Val} (h : s[k]? = some c) (h2 : mtC m c vs (vs.map (see s)) = some (v, c')) : mtV m (.r k) vs s = .ok v (s.set k c') := by
  unfold mtV
  simp only [h, h2]
theorem wpR.any {α : Type} {r : R α} {Q Q2 : α → Store → Prop} {E : EK} (h : wpR r Q (fun _ _ _ => False)) (i : ∀ a s, Q a s → Q2 a s) : wpR r Q2 E := by
  cases r with
  | ok a s => exact i _ _ h
  | er c fs s => exact h.elim
  | no => exact h
theorem is_nisi {K : Kit} {a : Ex} {env : Vm.Env} {st : Store} {d : PyData} {ts : List Ty} {t : Bool} (h1 : Is K a env st (.p d)) (h : ts.all isB = true) (e : ts.any (tyb d) = t) : Is K (.not (.isi a ts)) env st (.p (.bool (!t))) := by
  rw [← e]
  exact is_not (is_isi h1 h)
theorem is_eqEmp {K : Kit} {a : Ex} {env : Vm.Env} {st : Store} {ds : List PyData} {t : Bool} (h1 : Is K a env st (.p (.tuple ds))) (e : ds.isEmpty = t) : Is K (.cmp .eq a (.tup .nil)) env st (.p (.bool t)) := by
  subst e
  exact Is.of (x_cmp (h1.wp (x_tup (l_nil ⟨by decide, wpO_of (a := ds.isEmpty) (show eqD (.tuple ds) (.tuple []) = _ from eq_nilT ds) ⟨rfl, rfl⟩⟩))))
theorem strsOf_map : ∀ ys : List Str, strsOf (ys.map .str) = some ys
  | [] => rfl
  | y :: ys => by simp [strsOf, strsOf_map ys]
theorem is_join {K : Kit} {a : Ex} {env : Vm.Env} {st : Store} {ys : List Str} {sep : Str} (h1 : Is K a env st (.p (.list (ys.map .str)))) (h : joinSz ys sep = true) : Is K (.mth .join (.con (.str sep)) (.cons a .nil)) env st (.p (.str (Txt.join sep ys))) := by
  refine Is.of (x_mth (x_con ⟨.str, rfl, rfl, l_cons (h1.wp (l_nil ?_))⟩))
  show wpR (R.of ((mtP .join (.str sep) [.list (ys.map .str)]).map Val.p) st) _ _
  refine wp_of (wpO_of (a := .p (.str (Txt.join sep ys))) ?_ ⟨rfl, rfl⟩)
  show (match strsOf (ys.map .str) with | some ys => if joinSz ys sep = true then some (PyData.str (Txt.join sep ys)) else none | none => none).map Val.p = _
  rw [strsOf_map]
  simp only
  rw [if_pos h]
  rfl
theorem is_joinT {K : Kit} {a : Ex} {env : Vm.Env} {st : Store} {ys : List Str} {sep : Str} (h1 : Is K a env st (.p (.tuple (ys.map .str)))) (h : joinSz ys sep = true) : Is K (.mth .join (.con (.str sep)) (.cons a .nil)) env st (.p (.str (Txt.join sep ys))) := by
  refine Is.of (x_mth (x_con ⟨.str, rfl, rfl, l_cons (h1.wp (l_nil ?_))⟩))
  show wpR (R.of ((mtP .join (.str sep) [.tuple (ys.map .str)]).map Val.p) st) _ _
  refine wp_of (wpO_of (a := .p (.str (Txt.join sep ys))) ?_ ⟨rfl, rfl⟩)
  show (match strsOf (ys.map .str) with | some ys => if joinSz ys sep = true then some (PyData.str (Txt.join sep ys)) else none | none => none).map Val.p = _
  rw [strsOf_map]
  simp only
  rw [if_pos h]
  rfl
theorem cutL_from {α : Type} (xs : List α) (j : Nat) : cutL xs (some (j : Int)) none = xs.drop j := by
  unfold cutL
  rw [HT.sIx_nat, HT.sIx_none]
  rcases Nat.lt_or_ge j xs.length with h | h
  · rw [Nat.min_eq_left (by omega)]
    exact List.take_of_length_le (by simp)
  · rw [Nat.min_eq_right (by omega), List.drop_length, List.drop_of_length_le h]
    simp
theorem is_slcT {K : Kit} {a : Ex} {env : Vm.Env} {st : Store} {ds : List PyData} (j : Nat) (h1 : Is K a env st (.p (.tuple ds))) : Is K (.slc a (.cons (.con (.int (j : Int))) .nil) .nil) env st (.p (.tuple (ds.drop j))) := Is.of (x_slc (h1.wp (o_some (x_con ⟨(j : Int), rfl, o_nil (wpO_of (a := .p (.tuple (ds.drop j))) (by
  show (slcD (some (j : Int)) none (.tuple ds)).map Val.p = _
  unfold slcD
  simp only [cutL_from]
  rfl) ⟨rfl, rfl⟩)⟩))))
theorem is_slcL {K : Kit} {a : Ex} {env : Vm.Env} {st : Store} {ds : List PyData} (j : Nat) (h1 : Is K a env st (.p (.list ds))) : Is K (.slc a (.cons (.con (.int (j : Int))) .nil) .nil) env st (.p (.list (ds.drop j))) := Is.of (x_slc (h1.wp (o_some (x_con ⟨(j : Int), rfl, o_nil (wpO_of (a := .p (.list (ds.drop j))) (by
  show (slcD (some (j : Int)) none (.list ds)).map Val.p = _
  unfold slcD
  simp only [cutL_from]
  rfl) ⟨rfl, rfl⟩)⟩))))
theorem is_listT {K : Kit} {a : Ex} {env : Vm.Env} {st : Store} {ds : List PyData} (h1 : Is K a env st (.p (.tuple ds))) : Is K (.bi .list (.cons a .nil)) env st (.p (.list ds)) := Is.of (x_bi (l_cons (h1.wp (l_nil (wpO_of (a := .p (.list ds)) rfl ⟨rfl, rfl⟩)))))
theorem is_tupL {K : Kit} {a : Ex} {env : Vm.Env} {st : Store} {ds : List PyData} (h1 : Is K a env st (.p (.list ds))) : Is K (.bi .tuple (.cons a .nil)) env st (.p (.tuple ds)) := Is.of (x_bi (l_cons (h1.wp (l_nil (wpO_of (a := .p (.tuple ds)) rfl ⟨rfl, rfl⟩)))))
theorem ev1 {K : Kit} {a : Ex} {env : Vm.Env} {st : Store} {v : Val} (h1 : Is K a env st v) : evalL K (.cons a .nil) env st = .ok [v] st := eq_of (l_cons (h1.wp (l_nil ⟨rfl, rfl⟩)))
theorem ev2 {K : Kit} {a b : Ex} {env : Vm.Env} {st : Store} {v w : Val} (h1 : Is K a env st v) (h2 : Is K b env st w) : evalL K (.cons a (.cons b .nil)) env st = .ok [v, w] st := eq_of (l_cons (h1.wp (l_cons (h2.wp (l_nil ⟨rfl, rfl⟩)))))
theorem ev3 {K : Kit} {a b c : Ex} {env : Vm.Env} {st : Store} {v w u : Val} (h1 : Is K a env st v) (h2 : Is K b env st w) (h3 : Is K c env st u) : evalL K (.cons a (.cons b (.cons c .nil))) env st = .ok [v, w, u] st := eq_of (l_cons (h1.wp (l_cons (h2.wp (l_cons (h3.wp (l_nil ⟨rfl, rfl⟩)))))))
theorem is_lst1 {K : Kit} {a : Ex} {env : Vm.Env} {st : Store} {d : PyData} (h1 : Is K a env st (.p d)) : Is K (.lst 0 (.cons a .nil)) env st (.p (.list [d])) := is_lst (ds := [d]) (ev1 h1) (by show 1 ≤ SZ; decide)
theorem is_lst2 {K : Kit} {a b : Ex} {env : Vm.Env} {st : Store} {d e : PyData} (h1 : Is K a env st (.p d)) (h2 : Is K b env st (.p e)) : Is K (.lst 0 (.cons a (.cons b .nil))) env st (.p (.list [d, e])) := is_lst (ds := [d, e]) (ev2 h1 h2) (by show 2 ≤ SZ; decide)
theorem is_inT {K : Kit} {a b : Ex} {env : Vm.Env} {st : Store} {d : PyData} {ds : List PyData} (h1 : Is K a env st (.p d)) (h2 : Is K b env st (.p (.tuple ds))) (f1 : flatD d = true) (f2 : ds.all flatD = true) : Is K (.cmp .isin a b) env st (.p (.bool (ds.any fun z => PyData.eqv z d))) := Is.of (x_cmp (h1.wp (h2.wp (wpO_of (a := ds.any fun z => PyData.eqv z d) (by
  show inD d (.tuple ds) = _
  unfold inD
  simp only
  rw [if_pos ⟨f1, f2⟩]) ⟨rfl, rfl⟩))))
theorem is_ninT {K : Kit} {a b : Ex} {env : Vm.Env} {st : Store} {d : PyData} {ds : List PyData} (h1 : Is K a env st (.p d)) (h2 : Is K b env st (.p (.tuple ds))) (f1 : flatD d = true) (f2 : ds.all flatD = true) : Is K (.cmp .notin a b) env st (.p (.bool (!(ds.any fun z => PyData.eqv z d)))) := Is.of (x_cmp (h1.wp (h2.wp (wpO_of (a := !(ds.any fun z => PyData.eqv z d)) (by
  show (inD d (.tuple ds)).map (!·) = _
  unfold inD
  simp only
  rw [if_pos ⟨f1, f2⟩]
  rfl) ⟨rfl, rfl⟩))))
theorem x_extend {K : Kit} {es : Ex} {env : Vm.Env} {s : Store} {i k : Nat} {ds xs : List PyData} {Q : Val → Store → Prop} {E : EK} (he : env[i]? = some (some (.r k))) (hk : s[k]? = some (.pl ds)) (h : Is K es env s (.p (.list xs))) (hl : ds.length + xs.length ≤ SZ) (q : Q (.p .none) (s.set k (.pl (ds ++ xs)))) : wpR (evalX K (.mth .extend (.var i) (.cons es .nil)) env s) Q E := by
  refine x_mth (x_var he ⟨.list, ?_, rfl, l_cons (h.wp (l_nil ?_))⟩)
  · unfold mkind
    rw [see_rd hk rfl]
  · refine wp_eq (mtV_r hk (c' := .pl (ds ++ xs)) (v := .p .none) ?_) q
    show (if ds.length + xs.length ≤ SZ then some (Val.p .none, Cell.pl (ds ++ xs)) else none) = _
    rw [if_pos hl]
theorem eqv_strs (a b : Str) : PyData.eqv (.str a) (.str b) = (a == b) := by simp [PyData.eqv]
end Vm
end

section
namespace K05
open PySem Vm
def i_is_word : Nat := 0
def i_is_name : Nat := 1
def i_is_relative : Nat := 2
def i_is_integer : Nat := 3
def i_is_reference : Nat := 4
def i_are_words : Nat := 5
def i_is_plain_statement : Nat := 6
def i_statements_in : Nat := 7
def i_is_body : Nat := 8
def i_statement_rows : Nat := 9
def i_body_rows : Nat := 10
def i_body_text : Nat := 11
def i_parsed_integer : Nat := 12
def i_parsed_row : Nat := 13
def i_parse_rows : Nat := 14
def i_parse_body : Nat := 15
def i__law_begin : Nat := 16
def i__law_take : Nat := 17
def i__law_pick : Nat := 18
def i__law_is_word : Nat := 19
def i__law_is_name : Nat := 20
def i__law_is_reference : Nat := 21
def i__law_are_words : Nat := 22
def i__law_fits : Nat := 23
def i__law_size : Nat := 24
def i__law_reference : Nat := 25
def i__law_statement : Nat := 26
def i__law_body : Nat := 27
def i__law_rows : Nat := 28
def i__law_odd : Nat := 29
def i__law_bent : Nat := 30
def i__law_long : Nat := 31
def i__law_public_right : Nat := 32
def i_law : Nat := 33
def c_LETTERS : Nat := 0
def c_RESERVED : Nat := 1
def c_LONGEST : Nat := 2
def c_MOST_WORDS : Nat := 3
def c_MOST_STATEMENTS : Nat := 4
def c_LONGEST_PATH : Nat := 5
def c_MOST_DIGITS : Nat := 6
/-- is_word: value letter -/
def b_is_word : Sm := (.seq (.ife (.cons (.or (.not (.isi (.var 0) [.str])) (.or (.not (.chn .le .le (.con (.int 1)) (.bi .len (.cons (.var 0) .nil)) (.glo c_LONGEST))) (.ing false (.var 0) c_RESERVED))) .nil) (.ret (.con (.bool false))) .skip) (.ret (.bi .all (.cons (.lc 0 [1] (.cons (.var 0) .nil) .nil (.cmp .isin (.var 1) (.glo c_LETTERS))) .nil))))
/-- is_name: value words word -/
def b_is_name : Sm := (.seq (.ife (.cons (.not (.isi (.var 0) [.str])) .nil) (.ret (.con (.bool false))) .skip) (.seq (.asg (.n 1) (.mth .split (.var 0) (.cons (.con (.str ".")) .nil))) (.ret (.and (.cmp .le (.bi .len (.cons (.var 1) .nil)) (.glo c_MOST_WORDS)) (.bi .all (.cons (.lc 0 [2] (.cons (.var 1) .nil) .nil (.call i_is_word (.cons (.var 2) .nil))) .nil))))))
/-- is_relative: value rest -/
def b_is_relative : Sm := (.seq (.ife (.cons (.not (.isi (.var 0) [.str])) .nil) (.ret (.con (.bool false))) .skip) (.seq (.asg (.n 1) (.mth .lstrip (.var 0) (.cons (.con (.str ".")) .nil))) (.ret (.and (.chn .le .le (.con (.int 1)) (.bin .sub (.bi .len (.cons (.var 0) .nil)) (.bi .len (.cons (.var 1) .nil))) (.glo c_MOST_WORDS)) (.or (.cmp .eq (.var 1) (.con (.str ""))) (.call i_is_name (.cons (.var 1) .nil)))))))
/-- is_integer: value -/
def b_is_integer : Sm := (.ret (.and (.isi (.var 0) [.int]) (.not (.isi (.var 0) [.bool]))))
/-- is_reference: value -/
def b_is_reference : Sm := (.ret (.or (.call i_is_name (.cons (.var 0) .nil)) (.call i_is_relative (.cons (.var 0) .nil))))
/-- are_words: value most word -/
def b_are_words : Sm := (.ret (.and (.isi (.var 0) [.tuple]) (.and (.chn .le .le (.con (.int 1)) (.bi .len (.cons (.var 0) .nil)) (.var 1)) (.bi .all (.cons (.lc 0 [2] (.cons (.var 0) .nil) .nil (.call i_is_word (.cons (.var 2) .nil))) .nil)))))
/-- is_plain_statement: statement word rest many -/
def b_is_plain_statement : Sm := (.seq (.asg (.t [1, 2]) (.tup (.cons (.idx (.var 0) (.con (.int 0))) (.cons (.slc (.var 0) (.cons (.con (.int 1)) .nil) .nil) .nil)))) (.seq (.asg (.n 3) (.bi .len (.cons (.var 2) .nil))) (.seq (.ife (.cons (.cmp .eq (.var 1) (.con (.str "let"))) .nil) (.ret (.and (.cmp .eq (.var 3) (.con (.int 2))) (.and (.call i_is_word (.cons (.idx (.var 2) (.con (.int 0))) .nil)) (.and (.call i_is_integer (.cons (.idx (.var 2) (.con (.int 1))) .nil)) (.cmp .lt (.bi .abs (.cons (.idx (.var 2) (.con (.int 1))) .nil)) (.bin .pow (.con (.int 10)) (.con (.int 30)))))))) .skip) (.seq (.ife (.cons (.cmp .eq (.var 1) (.con (.str "\x69mport"))) .nil) (.ret (.and (.cmp .eq (.var 3) (.con (.int 1))) (.call i_is_name (.cons (.idx (.var 2) (.con (.int 0))) .nil)))) .skip) (.seq (.ife (.cons (.cmp .eq (.var 1) (.con (.str "as"))) .nil) (.ret (.and (.cmp .eq (.var 3) (.con (.int 2))) (.and (.call i_is_reference (.cons (.idx (.var 2) (.con (.int 0))) .nil)) (.call i_is_word (.cons (.idx (.var 2) (.con (.int 1))) .nil))))) .skip) (.seq (.ife (.cons (.cmp .eq (.var 1) (.con (.str "from"))) .nil) (.ret (.and (.cmp .eq (.var 3) (.con (.int 3))) (.and (.call i_is_reference (.cons (.idx (.var 2) (.con (.int 0))) .nil)) (.and (.call i_is_word (.cons (.idx (.var 2) (.con (.int 1))) .nil)) (.call i_is_word (.cons (.idx (.var 2) (.con (.int 2))) .nil)))))) .skip) (.seq (.ife (.cons (.cmp .eq (.var 1) (.con (.str "star"))) .nil) (.ret (.and (.cmp .eq (.var 3) (.con (.int 1))) (.call i_is_reference (.cons (.idx (.var 2) (.con (.int 0))) .nil)))) .skip) (.seq (.ife (.cons (.cmp .eq (.var 1) (.con (.str "public"))) .nil) (.ret (.and (.cmp .eq (.var 3) (.con (.int 1))) (.call i_are_words (.cons (.idx (.var 2) (.con (.int 0))) (.cons (.glo c_MOST_STATEMENTS) .nil))))) .skip) (.seq (.ife (.cons (.cmp .eq (.var 1) (.con (.str "read"))) .nil) (.ret (.and (.cmp .eq (.var 3) (.con (.int 2))) (.and (.call i_are_words (.cons (.idx (.var 2) (.con (.int 0))) (.cons (.glo c_LONGEST_PATH) .nil))) (.call i_is_word (.cons (.idx (.var 2) (.con (.int 1))) .nil))))) .skip) (.seq (.ife (.cons (.cmp .eq (.var 1) (.con (.str "need"))) .nil) (.ret (.and (.cmp .eq (.var 3) (.con (.int 1))) (.call i_are_words (.cons (.idx (.var 2) (.con (.int 0))) (.cons (.glo c_LONGEST_PATH) .nil))))) .skip) (.seq (.ife (.cons (.cmp .eq (.var 1) (.con (.str "forget"))) .nil) (.ret (.and (.cmp .eq (.var 3) (.con (.int 1))) (.call i_is_word (.cons (.idx (.var 2) (.con (.int 0))) .nil)))) .skip) (.ret (.and (.cmp .eq (.var 1) (.con (.str "stop"))) (.cmp .eq (.var 3) (.con (.int 0))))))))))))))))
/-- statements_in: value most found statement -/
def b_statements_in : Sm := (.seq (.ife (.cons (.not (.isi (.var 0) [.tuple])) .nil) (.ret (.bin .add (.var 1) (.con (.int 1)))) .skip) (.seq (.asg (.n 2) (.con (.int 0))) (.seq (.for_ [3] (.cons (.var 0) .nil) (.seq (.ife (.cons (.or (.cmp .gt (.var 2) (.var 1)) (.or (.not (.isi (.var 3) [.tuple])) (.or (.cmp .eq (.var 3) (.tup .nil)) (.not (.isi (.idx (.var 3) (.con (.int 0))) [.str]))))) .nil) (.ret (.bin .add (.var 1) (.con (.int 1)))) .skip) (.ife (.cons (.and (.cmp .eq (.idx (.var 3) (.con (.int 0))) (.con (.str "try"))) (.cmp .eq (.bi .len (.cons (.var 3) .nil)) (.con (.int 3)))) .nil) (.asg (.n 2) (.bin .add (.bin .add (.bin .add (.var 2) (.con (.int 1))) (.call i_statements_in (.cons (.idx (.var 3) (.con (.int 1))) (.cons (.var 1) .nil)))) (.call i_statements_in (.cons (.idx (.var 3) (.con (.int 2))) (.cons (.var 1) .nil))))) (.ife (.cons (.call i_is_plain_statement (.cons (.var 3) .nil)) .nil) (.asg (.n 2) (.bin .add (.var 2) (.con (.int 1)))) (.ret (.bin .add (.var 1) (.con (.int 1)))))))) (.ret (.var 2)))))
/-- is_body: value -/
def b_is_body : Sm := (.ret (.cmp .le (.call i_statements_in (.cons (.var 0) (.cons (.glo c_MOST_STATEMENTS) .nil))) (.glo c_MOST_STATEMENTS)))
/-- statement_rows: statement word part -/
def b_statement_rows : Sm := (.seq (.asg (.n 1) (.idx (.var 0) (.con (.int 0)))) (.seq (.ife (.cons (.cmp .eq (.var 1) (.con (.str "try"))) .nil) (.ret (.bin .add (.bin .add (.bin .add (.bin .add (.lst 0 (.cons (.con (.str "try")) .nil)) (.call i_body_rows (.cons (.idx (.var 0) (.con (.int 1))) .nil))) (.lst 0 (.cons (.con (.str "except")) .nil))) (.call i_body_rows (.cons (.idx (.var 0) (.con (.int 2))) .nil))) (.lst 0 (.cons (.con (.str "end")) .nil)))) .skip) (.seq (.ife (.cons (.cmp .isin (.var 1) (.tup (.cons (.con (.str "read")) (.cons (.con (.str "need")) .nil)))) .nil) (.ret (.lst 0 (.cons (.mth .join (.con (.str " ")) (.cons (.bin .add (.lst 0 (.cons (.var 1) (.cons (.mth .join (.con (.str ".")) (.cons (.idx (.var 0) (.con (.int 1))) .nil)) .nil))) (.bi .list (.cons (.slc (.var 0) (.cons (.con (.int 2)) .nil) .nil) .nil))) .nil)) .nil))) .skip) (.seq (.ife (.cons (.cmp .eq (.var 1) (.con (.str "public"))) .nil) (.ret (.lst 0 (.cons (.mth .join (.con (.str " ")) (.cons (.bin .add (.lst 0 (.cons (.var 1) .nil)) (.bi .list (.cons (.idx (.var 0) (.con (.int 1))) .nil))) .nil)) .nil))) .skip) (.ret (.lst 0 (.cons (.mth .join (.con (.str " ")) (.cons (.lc 0 [2] (.cons (.var 0) .nil) .nil (.bi .str (.cons (.var 2) .nil))) .nil)) .nil)))))))
/-- body_rows: body rows statement -/
def b_body_rows : Sm := (.seq (.asg (.n 1) (.lst 1 .nil)) (.seq (.for_ [2] (.cons (.var 0) .nil) (.ex (.mth .extend (.var 1) (.cons (.call i_statement_rows (.cons (.var 2) .nil)) .nil)))) (.ret (.var 1))))
/-- body_text: body row -/
def b_body_text : Sm := (.ret (.mth .join (.con (.str "")) (.cons (.lc 0 [1] (.cons (.call i_body_rows (.cons (.var 0) .nil)) .nil) .nil (.bin .add (.var 1) (.con (.str "\n")))) .nil)))
/-- parsed_integer: text digits sign number -/
def b_parsed_integer : Sm := (.seq (.asg (.n 1) (.ite (.cmp .eq (.slc (.var 0) .nil (.cons (.con (.int 1)) .nil)) (.con (.str "-"))) (.slc (.var 0) (.cons (.con (.int 1)) .nil) .nil) (.var 0))) (.seq (.ife (.cons (.or (.not (.chn .le .le (.con (.int 1)) (.bi .len (.cons (.var 1) .nil)) (.glo c_MOST_DIGITS))) (.not (.bi .all (.cons (.lc 0 [2] (.cons (.var 1) .nil) .nil (.cmp .isin (.var 2) (.con (.str "0123456789")))) .nil)))) .nil) (.ret (.con .none)) .skip) (.seq (.asg (.n 3) (.bi .int (.cons (.var 0) .nil))) (.ret (.ite (.cmp .eq (.bi .str (.cons (.var 3) .nil)) (.var 0)) (.var 3) (.con .none))))))
/-- parsed_row: row parts word statement -/
def b_parsed_row : Sm := (.seq (.asg (.n 1) (.mth .split (.var 0) (.cons (.con (.str " ")) .nil))) (.seq (.asg (.n 2) (.idx (.var 1) (.con (.int 0)))) (.seq (.asg (.n 3) (.bi .tuple (.cons (.var 1) .nil))) (.seq (.ife (.cons (.and (.cmp .eq (.var 2) (.con (.str "let"))) (.cmp .eq (.bi .len (.cons (.var 1) .nil)) (.con (.int 3)))) .nil) (.asg (.n 3) (.tup (.cons (.var 2) (.cons (.idx (.var 1) (.con (.int 1))) (.cons (.call i_parsed_integer (.cons (.idx (.var 1) (.con (.int 2))) .nil)) .nil))))) (.ife (.cons (.and (.cmp .isin (.var 2) (.tup (.cons (.con (.str "read")) (.cons (.con (.str "need")) .nil)))) (.cmp .gt (.bi .len (.cons (.var 1) .nil)) (.con (.int 1)))) .nil) (.asg (.n 3) (.bin .add (.tup (.cons (.var 2) (.cons (.bi .tuple (.cons (.mth .split (.idx (.var 1) (.con (.int 1))) (.cons (.con (.str ".")) .nil)) .nil)) .nil))) (.bi .tuple (.cons (.slc (.var 1) (.cons (.con (.int 2)) .nil) .nil) .nil)))) (.ife (.cons (.cmp .eq (.var 2) (.con (.str "public"))) .nil) (.asg (.n 3) (.tup (.cons (.var 2) (.cons (.bi .tuple (.cons (.slc (.var 1) (.cons (.con (.int 1)) .nil) .nil) .nil)) .nil)))) .skip))) (.ret (.ite (.call i_is_plain_statement (.cons (.var 3) .nil)) (.var 3) (.con .none)))))))
/-- parse_rows: rows open_parts many line row kind statements first statement -/
def b_parse_rows : Sm := (.seq (.asg (.n 1) (.lst 2 (.cons (.tup (.cons (.con (.str "body")) (.cons (.lst 1 .nil) .nil))) .nil))) (.seq (.asg (.n 2) (.con (.int 0))) (.seq (.for_ [3, 4] (.enu (.var 0)) (.seq (.asg (.t [5, 6]) (.idx (.var 1) (.neg (.con (.int 1))))) (.seq (.ife (.cons (.cmp .isin (.var 4) (.tup (.cons (.con (.str "try")) (.cons (.con (.str "except")) .nil)))) .nil) (.seq (.ife (.cons (.and (.cmp .eq (.var 4) (.con (.str "except"))) (.cmp .ne (.var 5) (.con (.str "try")))) .nil) .bad .skip) (.ex (.mth .append (.var 1) (.cons (.tup (.cons (.var 4) (.cons (.lst 1 .nil) .nil))) .nil)))) (.ife (.cons (.cmp .eq (.var 4) (.con (.str "end"))) .nil) (.seq (.ife (.cons (.cmp .ne (.var 5) (.con (.str "except"))) .nil) .bad .skip) (.seq (.asg (.n 7) (.idx (.idx (.var 1) (.neg (.con (.int 2)))) (.con (.int 1)))) (.seq (.asg (.n 1) (.cut 2 (.var 1) .nil (.cons (.neg (.con (.int 2))) .nil))) (.ex (.mth .append (.idx (.idx (.var 1) (.neg (.con (.int 1)))) (.con (.int 1))) (.cons (.tup (.cons (.con (.str "try")) (.cons (.bi .tuple (.cons (.var 7) .nil)) (.cons (.bi .tuple (.cons (.var 6) .nil)) .nil)))) .nil)))))) (.seq (.asg (.n 8) (.call i_parsed_row (.cons (.var 4) .nil))) (.seq (.ife (.cons (.cmp .is (.var 8) (.con .none)) .nil) .bad .skip) (.ex (.mth .append (.var 6) (.cons (.var 8) .nil))))))) (.seq (.asg (.n 2) (.bin .add (.var 2) (.bi .int (.cons (.cmp .notin (.var 4) (.tup (.cons (.con (.str "except")) (.cons (.con (.str "end")) .nil)))) .nil)))) (.ife (.cons (.cmp .gt (.var 2) (.glo c_MOST_STATEMENTS)) .nil) .bad .skip))))) (.seq (.ife (.cons (.cmp .gt (.bi .len (.cons (.var 1) .nil)) (.con (.int 1))) .nil) .bad .skip) (.ret (.bi .tuple (.cons (.idx (.idx (.var 1) (.con (.int 0))) (.con (.int 1))) .nil)))))))
/-- parse_body: text rows body -/
def b_parse_body : Sm := (.seq (.ife (.cons (.not (.isi (.var 0) [.str])) .nil) .bad .skip) (.seq (.asg (.n 1) (.mth .split (.var 0) (.cons (.con (.str "\n")) .nil))) (.seq (.asg (.n 2) (.call i_parse_rows (.cons (.slc (.var 1) .nil (.cons (.neg (.con (.int 1))) .nil)) .nil))) (.seq (.ife (.cons (.cmp .ne (.idx (.var 1) (.neg (.con (.int 1)))) (.con (.str ""))) .nil) .bad .skip) (.ret (.var 2))))))
/-- _law_begin: _law_script _law_cell -/
def b__law_begin : Sm := (.ret (.lst 2 (.cons (.or (.lc 1 [1] (.cons (.slc (.var 0) .nil (.cons (.con (.int 63)) .nil)) .nil) .nil (.bi .abs (.cons (.var 1) .nil))) (.lst 1 (.cons (.con (.int 7)) .nil))) (.cons (.con (.int 0)) (.cons (.con (.int 1)) (.cons (.con (.int 0)) .nil))))))
/-- _law_take: _law_draw _law_size_here _law_cells _law_at _law_cell -/
def b__law_take : Sm := (.seq (.asg (.n 2) (.idx (.var 0) (.con (.int 0)))) (.seq (.asg (.n 3) (.bin .mod (.idx (.var 0) (.con (.int 1))) (.bi .len (.cons (.var 2) .nil)))) (.seq (.asg (.n 4) (.idx (.var 2) (.var 3))) (.seq (.ife (.cons (.cmp .ge (.var 4) (.bin .pow (.con (.int 10)) (.con (.int 18)))) .nil) (.seq (.asg (.sub (.var 2) (.var 3)) (.bin .fdiv (.var 4) (.var 1))) (.ret (.bin .mod (.var 4) (.var 1)))) .skip) (.seq (.asg (.sub (.var 0) (.con (.int 1))) (.bin .add (.idx (.var 0) (.con (.int 1))) (.con (.int 1)))) (.seq (.asg (.sub (.var 0) (.con (.int 3))) (.bin .add (.idx (.var 0) (.con (.int 3))) (.con (.int 1)))) (.seq (.asg (.sub (.var 0) (.con (.int 2))) (.bin .mod (.bin .add (.bin .add (.bin .add (.bin .mul (.idx (.var 0) (.con (.int 2))) (.con (.int 48271))) (.var 4)) (.bin .mul (.con (.int 7919)) (.idx (.var 0) (.con (.int 3))))) (.con (.int 12345))) (.con (.int 2147483647)))) (.ret (.bin .mod (.bin .fdiv (.bin .mod (.bin .mul (.idx (.var 0) (.con (.int 2))) (.idx (.var 0) (.con (.int 2)))) (.con (.int 2147483629))) (.con (.int 16))) (.var 1))))))))))
/-- _law_pick: _law_draw _law_some -/
def b__law_pick : Sm := (.ret (.idx (.var 1) (.call i__law_take (.cons (.var 0) (.cons (.bi .len (.cons (.var 1) .nil)) .nil)))))
/-- _law_is_word: _law_item _law_barred _law_sign -/
def b__law_is_word : Sm := (.seq (.asg (.n 1) (.lst 0 (.cons (.con (.str "as")) (.cons (.con (.str "from")) (.cons (.con (.str "\x69mport")) (.cons (.con (.str "init")) (.cons (.con (.str "let")) (.cons (.con (.str "need")) (.cons (.con (.str "public")) (.cons (.con (.str "read")) (.cons (.con (.str "self")) (.cons (.con (.str "star")) (.cons (.con (.str "stop")) (.cons (.con (.str "try")) (.cons (.con (.str "except")) .nil))))))))))))))) (.seq (.ife (.cons (.or (.not (.isi (.var 0) [.str])) (.or (.not (.chn .le .le (.con (.int 1)) (.bi .len (.cons (.var 0) .nil)) (.con (.int 8)))) (.cmp .isin (.var 0) (.bin .add (.var 1) (.lst 0 (.cons (.con (.str "end")) (.cons (.con (.str "forget")) .nil))))))) .nil) (.ret (.con (.bool false))) .skip) (.ret (.cmp .eq (.lc 0 [2] (.cons (.var 0) .nil) (.cons (.cmp .notin (.var 2) (.con (.str "abcdefghijklmnopqrstuvwxyz"))) .nil) (.var 2)) (.lst 0 .nil)))))
/-- _law_is_name: _law_item _law_word -/
def b__law_is_name : Sm := (.seq (.ife (.cons (.or (.not (.isi (.var 0) [.str])) (.not (.chn .le .le (.con (.int 1)) (.bi .len (.cons (.mth .split (.var 0) (.cons (.con (.str ".")) .nil)) .nil)) (.con (.int 4))))) .nil) (.ret (.con (.bool false))) .skip) (.ret (.cmp .eq (.lc 0 [1] (.cons (.mth .split (.var 0) (.cons (.con (.str ".")) .nil)) .nil) (.cons (.not (.call i__law_is_word (.cons (.var 1) .nil))) .nil) (.var 1)) (.lst 0 .nil))))
/-- _law_is_reference: _law_item _law_many _law_rest -/
def b__law_is_reference : Sm := (.seq (.ife (.cons (.not (.isi (.var 0) [.str])) .nil) (.ret (.con (.bool false))) .skip) (.seq (.asg (.n 1) (.con (.int 0))) (.seq (.whl (.cons (.cmp .eq (.slc (.var 0) (.cons (.var 1) .nil) (.cons (.bin .add (.var 1) (.con (.int 1))) .nil)) (.con (.str "."))) .nil) (.asg (.n 1) (.bin .add (.var 1) (.con (.int 1))))) (.seq (.asg (.n 2) (.slc (.var 0) (.cons (.var 1) .nil) .nil)) (.ret (.or (.call i__law_is_name (.cons (.var 0) .nil)) (.and (.chn .le .le (.con (.int 1)) (.var 1) (.con (.int 4))) (.or (.cmp .eq (.var 2) (.con (.str ""))) (.call i__law_is_name (.cons (.var 2) .nil))))))))))
/-- _law_are_words: _law_item _law_most _law_word -/
def b__law_are_words : Sm := (.seq (.ife (.cons (.or (.not (.isi (.var 0) [.tuple])) (.not (.chn .le .le (.con (.int 1)) (.bi .len (.cons (.var 0) .nil)) (.var 1)))) .nil) (.ret (.con (.bool false))) .skip) (.ret (.cmp .eq (.lc 0 [2] (.cons (.var 0) .nil) (.cons (.not (.call i__law_is_word (.cons (.var 2) .nil))) .nil) (.var 2)) (.lst 0 .nil))))
/-- _law_fits: _law_row _law_marks _law_forms _law_sign _law_item -/
def b__law_fits : Sm := (.seq (.asg (.n 1) (.lst 1 .nil)) (.seq (.asg (.n 2) (.dic 1 (.cons (.con (.str "let")) (.cons (.con (.str "wi")) (.cons (.con (.str "\x69mport")) (.cons (.con (.str "n")) (.cons (.con (.str "as")) (.cons (.con (.str "rw")) (.cons (.con (.str "from")) (.cons (.con (.str "rww")) (.cons (.con (.str "star")) (.cons (.con (.str "r")) (.cons (.con (.str "public")) (.cons (.con (.str "m")) (.cons (.con (.str "read")) (.cons (.con (.str "pw")) .nil)))))))))))))))) (.seq (.ex (.mth .update (.var 2) (.cons (.dic 0 (.cons (.con (.str "need")) (.cons (.con (.str "p")) (.cons (.con (.str "stop")) (.cons (.con (.str "")) (.cons (.con (.str "forget")) (.cons (.con (.str "w")) .nil))))))) .nil))) (.seq (.ife (.cons (.or (.cmp .notin (.idx (.var 0) (.con (.int 0))) (.var 2)) (.cmp .ne (.bi .len (.cons (.var 0) .nil)) (.bin .add (.con (.int 1)) (.bi .len (.cons (.idx (.var 2) (.idx (.var 0) (.con (.int 0)))) .nil))))) .nil) (.ret (.con (.bool false))) .skip) (.seq (.for_ [3, 4] (.zip (.idx (.var 2) (.idx (.var 0) (.con (.int 0)))) (.slc (.var 0) (.cons (.con (.int 1)) .nil) .nil)) (.ife (.cons (.cmp .eq (.var 3) (.con (.str "w"))) .nil) (.ex (.mth .append (.var 1) (.cons (.call i__law_is_word (.cons (.var 4) .nil)) .nil))) (.ife (.cons (.cmp .eq (.var 3) (.con (.str "i"))) .nil) (.ex (.mth .append (.var 1) (.cons (.and (.isi (.var 4) [.int]) (.and (.not (.isi (.var 4) [.bool])) (.cmp .lt (.bi .abs (.cons (.var 4) .nil)) (.bin .pow (.con (.int 10)) (.con (.int 30)))))) .nil))) (.ife (.cons (.cmp .eq (.var 3) (.con (.str "n"))) .nil) (.ex (.mth .append (.var 1) (.cons (.call i__law_is_name (.cons (.var 4) .nil)) .nil))) (.ife (.cons (.cmp .eq (.var 3) (.con (.str "r"))) .nil) (.ex (.mth .append (.var 1) (.cons (.call i__law_is_reference (.cons (.var 4) .nil)) .nil))) (.ex (.mth .append (.var 1) (.cons (.call i__law_are_words (.cons (.var 4) (.cons (.idx (.lst 0 (.cons (.con (.int 40)) (.cons (.con (.int 6)) .nil))) (.bi .int (.cons (.cmp .eq (.var 3) (.con (.str "p"))) .nil))) .nil))) .nil)))))))) (.ret (.cmp .notin (.con (.bool false)) (.var 1))))))))
/-- _law_size: _law_item _law_found _law_row -/
def b__law_size : Sm := (.seq (.ife (.cons (.not (.isi (.var 0) [.tuple])) .nil) (.ret (.con (.int 99))) .skip) (.seq (.asg (.n 1) (.con (.int 0))) (.seq (.for_ [2] (.cons (.var 0) .nil) (.seq (.ife (.cons (.or (.not (.isi (.var 2) [.tuple])) (.or (.cmp .eq (.var 2) (.tup .nil)) (.not (.isi (.idx (.var 2) (.con (.int 0))) [.str])))) .nil) (.ret (.con (.int 99))) .skip) (.ife (.cons (.and (.cmp .eq (.idx (.var 2) (.con (.int 0))) (.con (.str "try"))) (.cmp .eq (.bi .len (.cons (.var 2) .nil)) (.con (.int 3)))) .nil) (.asg (.n 1) (.bin .add (.bin .add (.bin .add (.var 1) (.con (.int 1))) (.call i__law_size (.cons (.idx (.var 2) (.con (.int 1))) .nil))) (.call i__law_size (.cons (.idx (.var 2) (.con (.int 2))) .nil)))) (.asg (.n 1) (.ite (.call i__law_fits (.cons (.var 2) .nil)) (.bin .add (.var 1) (.con (.int 1))) (.con (.int 99))))))) (.ret (.bi .min2 (.cons (.var 1) (.cons (.con (.int 99)) .nil)))))))
/-- _law_reference: _law_draw -/
def b__law_reference : Sm := (.ret (.call i__law_pick (.cons (.var 0) (.cons (.lst 0 (.cons (.con (.str "a")) (.cons (.con (.str "b")) (.cons (.con (.str "a.b")) (.cons (.con (.str "zz.a.b.c")) (.cons (.con (.str ".")) (.cons (.con (.str ".a")) (.cons (.con (.str "..")) (.cons (.con (.str "..a.b")) (.cons (.con (.str "....")) (.cons (.con (.str "....a.b.c.d")) (.cons (.con (.str "b.a")) .nil)))))))))))) .nil))))
/-- _law_statement: _law_draw _law_deep _law_words _law_kind _law_word _law_path _law_at -/
def b__law_statement : Sm := (.seq (.asg (.n 2) (.lst 0 (.cons (.con (.str "x")) (.cons (.con (.str "y")) (.cons (.con (.str "a")) (.cons (.con (.str "b")) (.cons (.con (.str "zzzzzzzz")) (.cons (.con (.str "lets")) .nil)))))))) (.seq (.asg (.t [3, 4]) (.tup (.cons (.call i__law_take (.cons (.var 0) (.cons (.con (.int 11)) .nil))) (.cons (.call i__law_pick (.cons (.var 0) (.cons (.var 2) .nil))) .nil)))) (.seq (.asg (.n 5) (.bi .tuple (.cons (.lc 0 [6] (.rng (.con (.int 0)) (.bin .add (.con (.int 1)) (.call i__law_take (.cons (.var 0) (.cons (.con (.int 6)) .nil))))) .nil (.call i__law_pick (.cons (.var 0) (.cons (.var 2) .nil)))) .nil))) (.seq (.ife (.cons (.cmp .eq (.var 3) (.con (.int 0))) .nil) (.ret (.tup (.cons (.con (.str "let")) (.cons (.var 4) (.cons (.call i__law_pick (.cons (.var 0) (.cons (.lst 0 (.cons (.con (.int 0)) (.cons (.con (.int 1)) (.cons (.neg (.con (.int 1))) (.cons (.con (.int 12)) (.cons (.neg (.bin .pow (.con (.int 10)) (.con (.int 26)))) (.cons (.bin .pow (.con (.int 10)) (.con (.int 26))) .nil))))))) .nil))) .nil))))) .skip) (.seq (.ife (.cons (.cmp .eq (.var 3) (.con (.int 1))) .nil) (.ret (.tup (.cons (.con (.str "\x69mport")) (.cons (.call i__law_pick (.cons (.var 0) (.cons (.lst 0 (.cons (.con (.str "a")) (.cons (.con (.str "b")) (.cons (.con (.str "a.b")) (.cons (.con (.str "zz.a.b.c")) .nil))))) .nil))) .nil)))) .skip) (.seq (.ife (.cons (.cmp .eq (.var 3) (.con (.int 2))) .nil) (.ret (.tup (.cons (.con (.str "as")) (.cons (.call i__law_reference (.cons (.var 0) .nil)) (.cons (.var 4) .nil))))) .skip) (.seq (.ife (.cons (.cmp .eq (.var 3) (.con (.int 3))) .nil) (.ret (.tup (.cons (.con (.str "from")) (.cons (.call i__law_reference (.cons (.var 0) .nil)) (.cons (.var 4) (.cons (.call i__law_pick (.cons (.var 0) (.cons (.var 2) .nil))) .nil)))))) .skip) (.seq (.ife (.cons (.cmp .eq (.var 3) (.con (.int 4))) .nil) (.ret (.tup (.cons (.con (.str "star")) (.cons (.call i__law_reference (.cons (.var 0) .nil)) .nil)))) .skip) (.seq (.ife (.cons (.cmp .eq (.var 3) (.con (.int 5))) .nil) (.ret (.tup (.cons (.con (.str "public")) (.cons (.var 5) .nil)))) .skip) (.seq (.ife (.cons (.cmp .eq (.var 3) (.con (.int 6))) .nil) (.ret (.tup (.cons (.con (.str "read")) (.cons (.var 5) (.cons (.var 4) .nil))))) .skip) (.seq (.ife (.cons (.cmp .eq (.var 3) (.con (.int 7))) .nil) (.ret (.tup (.cons (.con (.str "need")) (.cons (.var 5) .nil)))) .skip) (.seq (.ife (.cons (.cmp .eq (.var 3) (.con (.int 8))) .nil) (.ret (.tup (.cons (.con (.str "forget")) (.cons (.var 4) .nil)))) .skip) (.seq (.ife (.cons (.or (.cmp .eq (.var 3) (.con (.int 9))) (.cmp .eq (.var 1) (.con (.int 0)))) .nil) (.ret (.tup (.cons (.con (.str "stop")) .nil))) .skip) (.ret (.tup (.cons (.con (.str "try")) (.cons (.call i__law_body (.cons (.var 0) (.cons (.con (.int 3)) (.cons (.bin .sub (.var 1) (.con (.int 1))) .nil)))) (.cons (.call i__law_body (.cons (.var 0) (.cons (.con (.int 3)) (.cons (.bin .sub (.var 1) (.con (.int 1))) .nil)))) .nil))))))))))))))))))
/-- _law_body: _law_draw _law_most _law_deep _law_at -/
def b__law_body : Sm := (.ret (.bi .tuple (.cons (.lc 0 [3] (.rng (.con (.int 0)) (.call i__law_take (.cons (.var 0) (.cons (.bin .add (.var 1) (.con (.int 1))) .nil)))) .nil (.call i__law_statement (.cons (.var 0) (.cons (.var 2) .nil)))) .nil)))
/-- _law_rows: _law_block _law_rows_here _law_row _law_inner _law_other _law_part -/
def b__law_rows : Sm := (.seq (.asg (.n 1) (.lst 1 .nil)) (.seq (.for_ [2] (.cons (.var 0) .nil) (.ife (.cons (.cmp .eq (.idx (.var 2) (.con (.int 0))) (.con (.str "try"))) .nil) (.seq (.asg (.t [3, 4]) (.tup (.cons (.call i__law_rows (.cons (.idx (.var 2) (.con (.int 1))) .nil)) (.cons (.call i__law_rows (.cons (.idx (.var 2) (.con (.int 2))) .nil)) .nil)))) (.asg (.n 1) (.cat 1 (.bin .add (.bin .add (.bin .add (.bin .add (.var 1) (.lst 0 (.cons (.con (.str "try")) .nil))) (.var 3)) (.lst 0 (.cons (.con (.str "except")) .nil))) (.var 4)) (.lst 0 (.cons (.con (.str "end")) .nil))))) (.ife (.cons (.cmp .isin (.idx (.var 2) (.con (.int 0))) (.tup (.cons (.con (.str "read")) (.cons (.con (.str "need")) .nil)))) .nil) (.ex (.mth .append (.var 1) (.cons (.mth .join (.con (.str " ")) (.cons (.bin .add (.lst 0 (.cons (.idx (.var 2) (.con (.int 0))) (.cons (.mth .join (.con (.str ".")) (.cons (.idx (.var 2) (.con (.int 1))) .nil)) .nil))) (.bi .list (.cons (.slc (.var 2) (.cons (.con (.int 2)) .nil) .nil) .nil))) .nil)) .nil))) (.ife (.cons (.cmp .eq (.idx (.var 2) (.con (.int 0))) (.con (.str "public"))) .nil) (.ex (.mth .append (.var 1) (.cons (.mth .join (.con (.str " ")) (.cons (.bin .add (.lst 0 (.cons (.con (.str "public")) .nil)) (.bi .list (.cons (.idx (.var 2) (.con (.int 1))) .nil))) .nil)) .nil))) (.ex (.mth .append (.var 1) (.cons (.mth .join (.con (.str " ")) (.cons (.lc 0 [5] (.cons (.var 2) .nil) .nil (.bi .str (.cons (.var 5) .nil))) .nil)) .nil))))))) (.ret (.var 1))))
/-- _law_odd: _law_draw _law_some -/
def b__law_odd : Sm := (.seq (.asg (.n 1) (.lst 0 (.cons (.con .none) (.cons (.con (.bool true)) (.cons (.con (.int 0)) (.cons (.neg (.con (.int 1))) (.cons (.con (.int 5)) (.cons (.con (.str "")) (.cons (.con (.str "a")) (.cons (.con (.str "x")) (.cons (.con (.str "let")) (.cons (.con (.str "a.b")) (.cons (.con (.str ".")) (.cons (.con (.str "A")) (.cons (.con (.str "toolongname")) (.cons (.tup (.cons (.con (.str "a")) .nil)) (.cons (.tup .nil) (.cons (.tup (.cons (.con (.str "a")) (.cons (.con (.str "b")) .nil))) (.cons (.lst 0 (.cons (.con (.str "a")) .nil)) .nil))))))))))))))))))) (.seq (.asg (.n 1) (.bin .add (.var 1) (.lst 0 (.cons (.bin .pow (.con (.int 10)) (.con (.int 30))) (.cons (.bin .sub (.bin .pow (.con (.int 10)) (.con (.int 30))) (.con (.int 1))) (.cons (.neg (.bin .pow (.con (.int 10)) (.con (.int 30)))) (.cons (.bin .sub (.con (.int 1)) (.bin .pow (.con (.int 10)) (.con (.int 30)))) .nil))))))) (.ret (.call i__law_pick (.cons (.var 0) (.cons (.bin .add (.var 1) (.lst 0 (.cons (.dic 0 .nil) (.cons (.tup (.cons (.tup (.cons (.con (.str "stop")) .nil)) .nil)) (.cons (.tup (.cons (.tup (.cons (.con (.str "let")) (.cons (.con (.str "x")) (.cons (.con (.int 1)) .nil)))) .nil)) (.cons (.tup (.cons (.con (.str "stop")) .nil)) (.cons (.lst 0 (.cons (.con (.str "stop")) .nil)) (.cons (.con (.str "stop")) .nil)))))))) .nil))))))
/-- _law_bent: _law_draw _law_item _law_at _law_way -/
def b__law_bent : Sm := (.seq (.ife (.cons (.or (.not (.isi (.var 1) [.tuple])) (.or (.cmp .eq (.var 1) (.tup .nil)) (.cmp .eq (.call i__law_take (.cons (.var 0) (.cons (.con (.int 8)) .nil))) (.con (.int 0))))) .nil) (.ret (.call i__law_odd (.cons (.var 0) .nil))) .skip) (.seq (.asg (.t [2, 3]) (.tup (.cons (.call i__law_take (.cons (.var 0) (.cons (.bi .len (.cons (.var 1) .nil)) .nil))) (.cons (.call i__law_take (.cons (.var 0) (.cons (.con (.int 8)) .nil))) .nil)))) (.seq (.ife (.cons (.cmp .eq (.var 3) (.con (.int 0))) .nil) (.ret (.bin .add (.slc (.var 1) .nil (.cons (.var 2) .nil)) (.slc (.var 1) (.cons (.bin .add (.var 2) (.con (.int 1))) .nil) .nil))) .skip) (.seq (.ife (.cons (.cmp .eq (.var 3) (.con (.int 1))) .nil) (.ret (.bin .add (.bin .add (.slc (.var 1) .nil (.cons (.var 2) .nil)) (.tup (.cons (.idx (.var 1) (.var 2)) .nil))) (.slc (.var 1) (.cons (.var 2) .nil) .nil))) .skip) (.seq (.ife (.cons (.cmp .eq (.var 3) (.con (.int 2))) .nil) (.ret (.bi .list (.cons (.var 1) .nil))) .skip) (.ret (.bin .add (.bin .add (.slc (.var 1) .nil (.cons (.var 2) .nil)) (.tup (.cons (.call i__law_bent (.cons (.var 0) (.cons (.idx (.var 1) (.var 2)) .nil))) .nil))) (.slc (.var 1) (.cons (.bin .add (.var 2) (.con (.int 1))) .nil) .nil))))))))
/-- _law_long: _law_draw _law_many _law_inner _law_rows_here _law_at _law_rest -/
def b__law_long : Sm := (.seq (.asg (.t [1, 2]) (.tup (.cons (.bin .add (.con (.int 38)) (.call i__law_take (.cons (.var 0) (.cons (.con (.int 5)) .nil)))) (.cons (.call i__law_take (.cons (.var 0) (.cons (.con (.int 20)) .nil))) .nil)))) (.seq (.asg (.n 3) (.bi .tuple (.cons (.lc 0 [4] (.rng (.con (.int 0)) (.var 2)) .nil (.tup (.cons (.con (.str "let")) (.cons (.con (.str "x")) (.cons (.var 4) .nil))))) .nil))) (.seq (.asg (.n 5) (.bin .sub (.bin .sub (.bin .sub (.var 1) (.con (.int 1))) (.var 2)) (.bi .min2 (.cons (.var 2) (.cons (.con (.int 3)) .nil))))) (.ret (.bin .add (.bin .add (.var 3) (.tup (.cons (.tup (.cons (.con (.str "try")) (.cons (.slc (.var 3) .nil (.cons (.con (.int 3)) .nil)) (.cons (.tup .nil) .nil)))) .nil))) (.bi .tuple (.cons (.bin .mul (.lst 0 (.cons (.tup (.cons (.con (.str "stop")) .nil)) .nil)) (.var 5)) .nil)))))))
/-- _law_public_right: _law_draw _law_many _law_item _law_at -/
def b__law_public_right : Sm := (.seq (.asg (.n 1) (.call i__law_pick (.cons (.var 0) (.cons (.lst 0 (.cons (.con (.int 7)) (.cons (.con (.int 9)) (.cons (.con (.int 39)) (.cons (.con (.int 40)) (.cons (.con (.int 41)) (.cons (.con (.int 42)) .nil))))))) .nil)))) (.seq (.asg (.n 2) (.tup (.cons (.tup (.cons (.con (.str "public")) (.cons (.bi .tuple (.cons (.lc 0 [3] (.rng (.con (.int 0)) (.var 1)) .nil (.call i__law_pick (.cons (.var 0) (.cons (.lst 0 (.cons (.con (.str "x")) (.cons (.con (.str "y")) (.cons (.con (.str "lets")) .nil)))) .nil)))) .nil)) .nil))) .nil))) (.seq (.ife (.cons (.cmp .ne (.bi .repr (.cons (.call i_is_body (.cons (.var 2) .nil)) .nil)) (.bi .repr (.cons (.cmp .le (.var 1) (.con (.int 40))) .nil))) .nil) (.ret (.con (.bool false))) .skip) (.ret (.or (.cmp .gt (.var 1) (.con (.int 40))) (.and (.cmp .eq (.call i_body_text (.cons (.var 2) .nil)) (.bin .add (.idx (.call i__law_rows (.cons (.var 2) .nil)) (.con (.int 0))) (.con (.str "\n")))) (.cmp .eq (.call i_parse_body (.cons (.call i_body_text (.cons (.var 2) .nil)) .nil)) (.var 2))))))))
/-- law: _law_script _law_draw _law_turn _law_item _law_change _law_due _law_said _law_row -/
def b_law : Sm := (.seq (.asg (.n 1) (.call i__law_begin (.cons (.var 0) .nil))) (.seq (.for_ [2] (.rng (.con (.int 0)) (.bin .add (.con (.int 6)) (.bi .min2 (.cons (.bi .len (.cons (.var 0) .nil)) (.cons (.con (.int 20)) .nil))))) (.seq (.asg (.n 3) (.ite (.cmp .eq (.call i__law_take (.cons (.var 1) (.cons (.con (.int 5)) .nil))) (.con (.int 0))) (.call i__law_long (.cons (.var 1) .nil)) (.call i__law_body (.cons (.var 1) (.cons (.con (.int 8)) (.cons (.con (.int 3)) .nil)))))) (.seq (.for_ [4] (.rng (.con (.int 0)) (.call i__law_pick (.cons (.var 1) (.cons (.lst 0 (.cons (.con (.int 0)) (.cons (.con (.int 0)) (.cons (.con (.int 1)) (.cons (.con (.int 1)) (.cons (.con (.int 2)) .nil)))))) .nil)))) (.asg (.n 3) (.call i__law_bent (.cons (.var 1) (.cons (.var 3) .nil))))) (.seq (.asg (.n 5) (.cmp .le (.call i__law_size (.cons (.var 3) .nil)) (.con (.int 40)))) (.seq (.ife (.cons (.or (.cmp .ne (.bi .repr (.cons (.call i_is_body (.cons (.var 3) .nil)) .nil)) (.bi .repr (.cons (.var 5) .nil))) (.cmp .ne (.callk i_is_body 0 ["value"] [0] .nil (.cons (.var 3) .nil)) (.var 5))) .nil) (.ret (.con (.bool false))) .skip) (.ife (.cons (.var 5) .nil) (.seq (.asg (.n 6) (.mth .join (.con (.str "")) (.cons (.lc 0 [7] (.cons (.call i__law_rows (.cons (.var 3) .nil)) .nil) .nil (.bin .add (.var 7) (.con (.str "\n")))) .nil))) (.seq (.ife (.cons (.or (.cmp .ne (.call i_body_text (.cons (.var 3) .nil)) (.var 6)) (.cmp .ne (.callk i_body_text 0 ["body"] [0] .nil (.cons (.var 3) .nil)) (.var 6))) .nil) (.ret (.con (.bool false))) .skip) (.seq (.ife (.cons (.cmp .ne (.bi .repr (.cons (.call i_parse_body (.cons (.var 6) .nil)) .nil)) (.bi .repr (.cons (.var 3) .nil))) .nil) (.ret (.con (.bool false))) .skip) (.ife (.cons (.cmp .ne (.bi .repr (.cons (.callk i_parse_body 0 ["text"] [0] .nil (.cons (.var 6) .nil)) .nil)) (.bi .repr (.cons (.var 3) .nil))) .nil) (.ret (.con (.bool false))) .skip)))) .skip)))))) (.ret (.call i__law_public_right (.cons (.var 1) .nil)))))
def f_is_word : Fn := ⟨1, 2, false, b_is_word⟩
def f_is_name : Fn := ⟨1, 3, false, b_is_name⟩
def f_is_relative : Fn := ⟨1, 2, false, b_is_relative⟩
def f_is_integer : Fn := ⟨1, 1, false, b_is_integer⟩
def f_is_reference : Fn := ⟨1, 1, false, b_is_reference⟩
def f_are_words : Fn := ⟨2, 3, false, b_are_words⟩
def f_is_plain_statement : Fn := ⟨1, 4, false, b_is_plain_statement⟩
def f_statements_in : Fn := ⟨2, 4, false, b_statements_in⟩
def f_is_body : Fn := ⟨1, 1, false, b_is_body⟩
def f_statement_rows : Fn := ⟨1, 3, false, b_statement_rows⟩
def f_body_rows : Fn := ⟨1, 3, false, b_body_rows⟩
def f_body_text : Fn := ⟨1, 2, false, b_body_text⟩
def f_parsed_integer : Fn := ⟨1, 4, false, b_parsed_integer⟩
def f_parsed_row : Fn := ⟨1, 4, false, b_parsed_row⟩
def f_parse_rows : Fn := ⟨1, 9, false, b_parse_rows⟩
def f_parse_body : Fn := ⟨1, 3, false, b_parse_body⟩
def f__law_begin : Fn := ⟨1, 2, true, b__law_begin⟩
def f__law_take : Fn := ⟨2, 5, false, b__law_take⟩
def f__law_pick : Fn := ⟨2, 2, false, b__law_pick⟩
def f__law_is_word : Fn := ⟨1, 3, false, b__law_is_word⟩
def f__law_is_name : Fn := ⟨1, 2, false, b__law_is_name⟩
def f__law_is_reference : Fn := ⟨1, 3, false, b__law_is_reference⟩
def f__law_are_words : Fn := ⟨2, 3, false, b__law_are_words⟩
def f__law_fits : Fn := ⟨1, 5, false, b__law_fits⟩
def f__law_size : Fn := ⟨1, 3, false, b__law_size⟩
def f__law_reference : Fn := ⟨1, 1, false, b__law_reference⟩
def f__law_statement : Fn := ⟨2, 7, false, b__law_statement⟩
def f__law_body : Fn := ⟨3, 4, false, b__law_body⟩
def f__law_rows : Fn := ⟨1, 6, false, b__law_rows⟩
def f__law_odd : Fn := ⟨1, 2, false, b__law_odd⟩
def f__law_bent : Fn := ⟨2, 4, false, b__law_bent⟩
def f__law_long : Fn := ⟨1, 6, false, b__law_long⟩
def f__law_public_right : Fn := ⟨1, 4, false, b__law_public_right⟩
def f_law : Fn := ⟨1, 8, false, b_law⟩
def fnsT : List Fn := [f_is_word, f_is_name, f_is_relative, f_is_integer, f_is_reference, f_are_words, f_is_plain_statement, f_statements_in, f_is_body, f_statement_rows, f_body_rows, f_body_text, f_parsed_integer, f_parsed_row, f_parse_rows, f_parse_body, f__law_begin, f__law_take, f__law_pick, f__law_is_word, f__law_is_name, f__law_is_reference, f__law_are_words, f__law_fits, f__law_size, f__law_reference, f__law_statement, f__law_body, f__law_rows, f__law_odd, f__law_bent, f__law_long, f__law_public_right, f_law]
def d_RESERVED : List PyData := [(.str "as"), (.str "from"), (.str "\x69mport"), (.str "init"), (.str "let"), (.str "need"), (.str "public"), (.str "read"), (.str "self"), (.str "star"), (.str "stop"), (.str "try"), (.str "except"), (.str "end"), (.str "forget")]
def consT : List PyData := [(.str "abcdefghijklmnopqrstuvwxyz"), .tuple d_RESERVED, (.int 8), (.int 4), (.int 40), (.int 6), (.int 30)]
def subT : List (List Nat) := [[0], [1, 0]]
def fieldsT : List (List Str) := [[], ["line"]]
def pg : Pg := ⟨fun i => fnsT[i]?, fun i => consT[i]?, fun a b => (subT.getD a []).contains b, fun c => fieldsT.getD c [], 100000, fun _ _ => none, fun _ _ => none⟩
def iLaw : Nat := i_law
end K05
end

section
namespace K05
open PySem PySem.Spec PyProof.Rows L2 Vm
def top (i : Nat) : Stmt := PySem.Challenge.pw_modcore_k05_bodies.main.body.getD i (.Pass ⟨0, 0, 0, 0⟩)
def ft0 : FT := ⟨"is_word", top 8, ["value", "letter"], ["value"]⟩
def ft1 : FT := ⟨"is_name", top 9, ["value", "words", "word"], ["value"]⟩
def ft2 : FT := ⟨"is_relative", top 10, ["value", "rest"], ["value"]⟩
def ft3 : FT := ⟨"is_integer", top 15, ["value"], ["value"]⟩
def ft4 : FT := ⟨"is_reference", top 16, ["value"], ["value"]⟩
def ft5 : FT := ⟨"are_words", top 17, ["value", "most", "word"], ["value", "most"]⟩
def ft6 : FT := ⟨"is_plain_statement", top 18, ["statement", "word", "rest", "many"], ["statement"]⟩
def ft7 : FT := ⟨"statements_in", top 19, ["value", "most", "found", "statement"], ["value", "most"]⟩
def ft8 : FT := ⟨"is_body", top 20, ["value"], ["value"]⟩
def ft9 : FT := ⟨"statement_rows", top 21, ["statement", "word", "part"], ["statement"]⟩
def ft10 : FT := ⟨"body_rows", top 22, ["body", "rows", "statement"], ["body"]⟩
def ft11 : FT := ⟨"body_text", top 23, ["body", "row"], ["body"]⟩
def ft12 : FT := ⟨"parsed_integer", top 24, ["text", "digits", "sign", "number"], ["text"]⟩
def ft13 : FT := ⟨"parsed_row", top 25, ["row", "parts", "word", "statement"], ["row"]⟩
def ft14 : FT := ⟨"parse_rows", top 26, ["rows", "open_parts", "many", "line", "row", "kind", "statements", "first", "statement"], ["rows"]⟩
def ft15 : FT := ⟨"parse_body", top 27, ["text", "rows", "body"], ["text"]⟩
def ft16 : FT := ⟨"_law_begin", top 29, ["_law_script", "_law_cell"], ["_law_script"]⟩
def ft17 : FT := ⟨"_law_take", top 30, ["_law_draw", "_law_size_here", "_law_cells", "_law_at", "_law_cell"], ["_law_draw", "_law_size_here"]⟩
def ft18 : FT := ⟨"_law_pick", top 31, ["_law_draw", "_law_some"], ["_law_draw", "_law_some"]⟩
def ft19 : FT := ⟨"_law_is_word", top 32, ["_law_item", "_law_barred", "_law_sign"], ["_law_item"]⟩
def ft20 : FT := ⟨"_law_is_name", top 33, ["_law_item", "_law_word"], ["_law_item"]⟩
def ft21 : FT := ⟨"_law_is_reference", top 34, ["_law_item", "_law_many", "_law_rest"], ["_law_item"]⟩
def ft22 : FT := ⟨"_law_are_words", top 35, ["_law_item", "_law_most", "_law_word"], ["_law_item", "_law_most"]⟩
def ft23 : FT := ⟨"_law_fits", top 36, ["_law_row", "_law_marks", "_law_forms", "_law_sign", "_law_item"], ["_law_row"]⟩
def ft24 : FT := ⟨"_law_size", top 37, ["_law_item", "_law_found", "_law_row"], ["_law_item"]⟩
def ft25 : FT := ⟨"_law_reference", top 38, ["_law_draw"], ["_law_draw"]⟩
def ft26 : FT := ⟨"_law_statement", top 39, ["_law_draw", "_law_deep", "_law_words", "_law_kind", "_law_word", "_law_path", "_law_at"], ["_law_draw", "_law_deep"]⟩
def ft27 : FT := ⟨"_law_body", top 40, ["_law_draw", "_law_most", "_law_deep", "_law_at"], ["_law_draw", "_law_most", "_law_deep"]⟩
def ft28 : FT := ⟨"_law_rows", top 41, ["_law_block", "_law_rows_here", "_law_row", "_law_inner", "_law_other", "_law_part"], ["_law_block"]⟩
def ft29 : FT := ⟨"_law_odd", top 42, ["_law_draw", "_law_some"], ["_law_draw"]⟩
def ft30 : FT := ⟨"_law_bent", top 43, ["_law_draw", "_law_item", "_law_at", "_law_way"], ["_law_draw", "_law_item"]⟩
def ft31 : FT := ⟨"_law_long", top 44, ["_law_draw", "_law_many", "_law_inner", "_law_rows_here", "_law_at", "_law_rest"], ["_law_draw"]⟩
def ft32 : FT := ⟨"_law_public_right", top 45, ["_law_draw", "_law_many", "_law_item", "_law_at"], ["_law_draw"]⟩
def ft33 : FT := ⟨"law", top 46, ["_law_script", "_law_draw", "_law_turn", "_law_item", "_law_change", "_law_due", "_law_said", "_law_row"], ["_law_script"]⟩
def tab : List FT := [ft0, ft1, ft2, ft3, ft4, ft5, ft6, ft7, ft8, ft9, ft10, ft11, ft12, ft13, ft14, ft15, ft16, ft17, ft18, ft19, ft20, ft21, ft22, ft23, ft24, ft25, ft26, ft27, ft28, ft29, ft30, ft31, ft32, ft33]
def mcf0 : List (Str × Nat) := [("is_word", 0), ("is_name", 1), ("is_relative", 2), ("is_integer", 3), ("is_reference", 4), ("are_words", 5), ("is_plain_statement", 6), ("statements_in", 7), ("is_body", 8), ("statement_rows", 9), ("body_rows", 10), ("body_text", 11), ("parsed_integer", 12), ("parsed_row", 13), ("parse_rows", 14), ("parse_body", 15), ("_law_begin", 16), ("_law_take", 17), ("_law_pick", 18), ("_law_is_word", 19), ("_law_is_name", 20), ("_law_is_reference", 21), ("_law_are_words", 22), ("_law_fits", 23), ("_law_size", 24)]
def mcf1 : List (Str × Nat) := [("_law_reference", 25), ("_law_statement", 26), ("_law_body", 27), ("_law_rows", 28), ("_law_odd", 29), ("_law_bent", 30), ("_law_long", 31), ("_law_public_right", 32), ("law", 33)]
def mc : MC := ⟨[], (mcf0 ++ mcf1), [("LETTERS", 0), ("LONGEST", 2), ("MOST_WORDS", 3), ("MOST_STATEMENTS", 4), ("LONGEST_PATH", 5), ("MOST_DIGITS", 6)], [("RESERVED", 1)], [], ["all", "isinstance", "str", "len", "int", "bool", "tuple", "abs", "list", "enumerate", "zip", "min", "range", "repr"], [(15, 0, ["text"], [0]), (11, 0, ["body"], [0]), (8, 0, ["value"], [0])]⟩
def nm0 : List Str := ["ModuleError", "InvalidBody", "LETTERS", "RESERVED", "LONGEST", "MOST_WORDS", "is_word", "is_name", "is_relative", "MOST_STATEMENTS", "LONGEST_PATH", "MOST_DIGITS", "is_integer", "is_reference", "are_words", "is_plain_statement", "statements_in", "is_body", "statement_rows", "body_rows", "body_text", "parsed_integer", "parsed_row", "parse_rows", "parse_body", "_law_begin", "_law_take", "_law_pick", "_law_is_word", "_law_is_name"]
def nm1 : List Str := ["_law_is_reference", "_law_are_words", "_law_fits", "_law_size", "_law_reference", "_law_statement", "_law_body", "_law_rows", "_law_odd", "_law_bent", "_law_long", "_law_public_right"]
def nms : List Str := nm0 ++ nm1
theorem kw0 : ∀ (i : Nat) (t : FT), tab[i]? = some t → ∀ (kV doc pm : Value) (an : Option Addr) (cdv ct : Value) (us : List Value), us.length = t.ps.length → bindArgs (PySem.W.fnOf t.nm t.nm (defArgs t.st) (defBody t.st) (defScope t.st) .none kV doc pm an cdv ct) ⟨us, []⟩ = pure (t.ps.zip us) := by
  intro i t h kV doc pm an cdv ct us hl
  match i, h with
  | 0, h => cases h; match us, hl with | [_], _ => rfl
  | 1, h => cases h; match us, hl with | [_], _ => rfl
  | 2, h => cases h; match us, hl with | [_], _ => rfl
  | 3, h => cases h; match us, hl with | [_], _ => rfl
  | 4, h => cases h; match us, hl with | [_], _ => rfl
  | 5, h => cases h; match us, hl with | [_, _], _ => rfl
  | 6, h => cases h; match us, hl with | [_], _ => rfl
  | 7, h => cases h; match us, hl with | [_, _], _ => rfl
  | 8, h => cases h; match us, hl with | [_], _ => rfl
  | 9, h => cases h; match us, hl with | [_], _ => rfl
  | 10, h => cases h; match us, hl with | [_], _ => rfl
  | 11, h => cases h; match us, hl with | [_], _ => rfl
  | 12, h => cases h; match us, hl with | [_], _ => rfl
  | 13, h => cases h; match us, hl with | [_], _ => rfl
  | 14, h => cases h; match us, hl with | [_], _ => rfl
  | 15, h => cases h; match us, hl with | [_], _ => rfl
  | 16, h => cases h; match us, hl with | [_], _ => rfl
  | 17, h => cases h; match us, hl with | [_, _], _ => rfl
  | 18, h => cases h; match us, hl with | [_, _], _ => rfl
  | 19, h => cases h; match us, hl with | [_], _ => rfl
  | 20, h => cases h; match us, hl with | [_], _ => rfl
  | 21, h => cases h; match us, hl with | [_], _ => rfl
  | 22, h => cases h; match us, hl with | [_, _], _ => rfl
  | 23, h => cases h; match us, hl with | [_], _ => rfl
  | 24, h => cases h; match us, hl with | [_], _ => rfl
  | 25, h => cases h; match us, hl with | [_], _ => rfl
  | 26, h => cases h; match us, hl with | [_, _], _ => rfl
  | 27, h => cases h; match us, hl with | [_, _, _], _ => rfl
  | 28, h => cases h; match us, hl with | [_], _ => rfl
  | 29, h => cases h; match us, hl with | [_], _ => rfl
  | 30, h => cases h; match us, hl with | [_, _], _ => rfl
  | 31, h => cases h; match us, hl with | [_], _ => rfl
  | 32, h => cases h; match us, hl with | [_], _ => rfl
  | 33, h => cases h; match us, hl with | [_], _ => rfl
  | n + 34, h => cases h
theorem kw1 : ∀ (i : Nat) (t : FT), tab[i]? = some t → ∀ m ks pm', (i, m, ks, pm') ∈ mc.kw → ∀ (kV doc pm : Value) (an : Option Addr) (cdv ct : Value) (us ws : List Value), us.length = m → ws.length = ks.length → bindArgs (PySem.W.fnOf t.nm t.nm (defArgs t.st) (defBody t.st) (defScope t.st) .none kV doc pm an cdv ct) ⟨us, ks.zip ws⟩ = pure (t.ps.zip (permL pm' (us ++ ws))) := by
  intro i t h m ks pm' hm kV doc pm an cdv ct us ws hl hl2
  simp only [mc, List.mem_cons, List.not_mem_nil, or_false, Prod.mk.injEq] at hm
  rcases hm with ⟨rfl, rfl, rfl, rfl⟩ | ⟨rfl, rfl, rfl, rfl⟩ | ⟨rfl, rfl, rfl, rfl⟩
  · cases h; match us, ws, hl, hl2 with | [], [_], _, _ => rfl
  · cases h; match us, ws, hl, hl2 with | [], [_], _, _ => rfl
  · cases h; match us, ws, hl, hl2 with | [], [_], _, _ => rfl
theorem look : tabB pg mc tab fnsT = true := by decide +kernel
theorem kws : kwFor mc tab := fun i t h => ⟨kw0 i t h, kw1 i t h⟩
abbrev RW : PySem.W.OpenLaw := PySem.Challenge.rw_modcore_k05_bodies
abbrev R : PySem.W.OpenRow := PySem.W.OpenLaw.row RW
abbrev hk : PySem.W.Hook := hookV 4 (faOf mc pg) (tuB mc pg) (fnOfT tab)
def ob (s : PySem.W.SharedT) : He.AlD := obsV (faOf mc pg) (tuB mc pg) (fnOfT tab) (frL (HandSHeadRun.getT s) (He.asD (HandSHeadRun.getT s) 4))
theorem ob_eq (s : PySem.W.SharedT) : ob s = hk.obs s.abs := obsV_eq (HandSHeadRun.getT_eq s)
theorem run (w : World) : HandSHeadRun.RunEq R (PySem.W.view R.prog [46]) hk ob 2000 nms w := by
  intro os
  kernel_rfl
end K05
end

section
/-! words, names, statements: what the defs hand out. -/
namespace K05
open PySem Vm
local macro_rules | `(tactic| walk_at "x1") => `(tactic| first
  | (with_reducible refine x_var ?_ ?_; exact rfl) | (with_reducible refine x_con ?_) | (with_reducible refine x_glo ?_ ?_; exact rfl) | (with_reducible refine x_bin ?_) | (with_reducible refine x_and ?_) | (with_reducible refine x_or ?_) | (with_reducible refine x_not ?_)
  | (with_reducible refine x_ite ?_) | (with_reducible refine x_cmp ?_) | (with_reducible refine x_chn ?_) | (with_reducible refine x_tup ?_) | (with_reducible refine x_lst ?_) | (with_reducible refine x_idx ?_) | (with_reducible refine x_slc ?_) | (with_reducible refine x_call ?_) | (with_reducible refine x_callk ?_)
  | (with_reducible refine x_bi ?_) | (with_reducible refine x_mth ?_) | (with_reducible refine x_isi ?_) | (with_reducible refine l_nil ?_) | (with_reducible refine l_cons ?_) | (with_reducible refine o_nil ?_) | (with_reducible refine o_some ?_) | (with_reducible refine t_nil ?_) | (with_reducible refine t_some ?_)
  | (with_reducible refine s_skip ?_) | (with_reducible refine s_seq ?_) | (with_reducible refine s_asg ?_) | (with_reducible refine s_asgT ?_) | (with_reducible refine s_ex ?_) | (with_reducible refine s_ret ?_) | (with_reducible refine s_ife ?_)
  | (with_reducible refine wpO_of ?_ ?_; exact rfl) | (with_reducible refine wpO_of (isi_p ?_) ?_; exact rfl))
local macro_rules | `(tactic| walk_at "xs") => `(tactic| repeat (walk_at "x1"; try dsimp only))
local macro_rules | `(tactic| walk_at "is") => `(tactic| (refine Is.of ?_; walk_at "xs"; exact ⟨rfl, rfl⟩))
def letters : List Nat := [97, 98, 99, 100, 101, 102, 103, 104, 105, 106, 107, 108, 109, 110, 111, 112, 113, 114, 115, 116, 117, 118, 119, 120, 121, 122]
def sLetters : Str := "abcdefghijklmnopqrstuvwxyz"
theorem letters_eq : sLetters.cps.toList = letters := by decide +kernel
def wordB (s : Str) : Bool := decide (1 ≤ s.length) && decide (s.length ≤ 8) && !(d_RESERVED.any fun z => PyData.eqv z (.str s)) && s.cps.toList.all fun c => decide (c ∈ letters)
def wordD : PyData → Bool
  | .str s => wordB s
  | _ => false
theorem r_is_word {n : Nat} {d : PyData} {st : Store} (wf : WFs st) (h : ∀ s, d = .str s → s.length ≤ SZ) : runF pg (n + 1) i_is_word [.p d] st = .ok (.p (.bool (wordD d))) st := by
  refine f_is rfl rfl rfl wf ?_
  show wpF (execS (kitOf pg n) pg.fields b_is_word [some (.p d), none] st) _
  unfold b_is_word
  refine s_seq (s_ife (t_some ?_))
  cases d with
  | str s =>
    have hs := h s rfl
    have e1 : Is (kitOf pg n) (.chn .le .le (.con (.int 1)) (.bi .len (.cons (.var 0) .nil)) (.glo c_LONGEST)) [some (.p (.str s)), none] st (.p (.bool (decide (1 ≤ (s.length : Int)) && decide ((s.length : Int) ≤ 8)))) := by
      refine is_chnI (i := 1) (j := s.length) (k := 8) (Is.of (x_con ⟨rfl, rfl⟩)) (Is.of (x_bi (l_cons (x_var rfl (l_nil (wpO_of (a := .p (.int s.length)) ?_ ⟨rfl, rfl⟩)))))) (Is.of (x_glo rfl ⟨rfl, rfl⟩)) rfl rfl
      show (biD .len (.str s)).map Val.p = _
      unfold biD
      simp only
      rw [if_pos hs]
      rfl
    have e3 : Is (kitOf pg n) (.ing false (.var 0) c_RESERVED) [some (.p (.str s)), none] st (.p (.bool (d_RESERVED.any fun z => PyData.eqv z (.str s)))) := Is.of (x_in (ds := d_RESERVED) rfl (by decide +kernel) (x_var rfl ⟨.str s, rfl, rfl, rfl, rfl⟩))
    have e0 : Is (kitOf pg n) (.not (.isi (.var 0) [.str])) [some (.p (.str s)), none] st (.p (.bool false)) := Is.of (by walk_at "xs"; exact ⟨rfl, rfl⟩)
    refine x_orB (t1 := false) (t2 := !(decide (1 ≤ (s.length : Int)) && decide ((s.length : Int) ≤ 8)) || (d_RESERVED.any fun z => PyData.eqv z (.str s))) e0 (fun _ => is_or (Is.of (x_not (e1.wp (wpO_of rfl ⟨rfl, rfl⟩)))) fun _ => e3) ?_
    rw [Bool.false_or]
    have e' : wordD (.str s) = (!(!(decide (1 ≤ (s.length : Int)) && decide ((s.length : Int) ≤ 8)) || (d_RESERVED.any fun z => PyData.eqv z (.str s))) && s.cps.toList.all fun c => decide (c ∈ letters)) := by
      show wordB s = _
      unfold wordB
      generalize (d_RESERVED.any fun z => PyData.eqv z (.str s)) = rb
      generalize (s.cps.toList.all fun c => decide (c ∈ letters)) = lb
      have a1 : decide (1 ≤ (s.length : Int)) = decide (1 ≤ s.length) := by apply decide_eq_decide.mpr; omega
      have a2 : decide ((s.length : Int) ≤ 8) = decide (s.length ≤ 8) := by apply decide_eq_decide.mpr; omega
      rw [a1, a2]
      cases decide (1 ≤ s.length) <;> cases decide (s.length ≤ 8) <;> cases rb <;> cases lb <;> rfl
    generalize (!(decide (1 ≤ (s.length : Int)) && decide ((s.length : Int) ≤ 8)) || (d_RESERVED.any fun z => PyData.eqv z (.str s))) = cb at e' ⊢
    refine wpO_of (a := cb) rfl (wpB_mk (fun e => ?_) fun e => ?_)
    · rw [e] at e'
      rw [e']
      walk_at "xs"
      exact ⟨by simp, .inl rfl⟩
    · rw [e] at e'
      have e' : wordD (.str s) = s.cps.toList.all fun c => decide (c ∈ letters) := e'
      refine s_skip (s_ret (x_bi (l_cons (x_map (f := fun d => match inD d (.str sLetters) with | some b => .bool b | none => .none) (charsOf s) (i_str (Is.of (x_var rfl ⟨rfl, rfl⟩))) (fun d hd => ?_) (by unfold charsOf; rw [List.length_map, Array.length_toList]; exact hs) (l_nil ?_)))))
      · obtain ⟨c, hc, rfl⟩ := List.mem_map.mp hd
        refine Is.of (x_cmp (x_var rfl (x_glo rfl (wpO_of (a := decide (c ∈ sLetters.cps.toList)) ?_ ⟨?_, rfl⟩))))
        · exact in_sign c sLetters
        · simp only [in_sign]
      · refine wpO_of (a := .p (.bool (s.cps.toList.all fun c => decide (c ∈ letters)))) ?_ ?_
        · show (biD .all (.list _)).map Val.p = _
          have : (charsOf s).map (fun d => match inD d (.str sLetters) with | some b => PyData.bool b | none => .none) = s.cps.toList.map fun c => PyData.bool (decide (c ∈ letters)) := by
            unfold charsOf
            rw [List.map_map]
            refine List.map_congr_left fun c _ => ?_
            simp only [Function.comp, in_sign, letters_eq]
          rw [this, all_bools]
          rfl
        · exact ⟨by simp, .inl (by rw [e'])⟩
  | _ =>
    refine x_orB (t1 := true) (t2 := true) (Is.of (by walk_at "xs"; exact ⟨rfl, rfl⟩)) (fun z => by cases z) ?_
    walk_at "xs"
    refine wpB_t ?_
    walk_at "xs"
    exact ⟨by simp, .inl rfl⟩
def nameB (s : Str) : Bool := decide (((Txt.split s dot).length : Int) ≤ 4) && (Txt.split s dot).all wordB
def nameD : PyData → Bool
  | .str s => nameB s
  | _ => false
theorem r_is_name {n : Nat} {d : PyData} {st : Store} (wf : WFs st) (h : ∀ s, d = .str s → s.length + 2 ≤ SZ) : runF pg (n + 2) i_is_name [.p d] st = .ok (.p (.bool (nameD d))) st := by
  refine f_is rfl rfl rfl wf ?_
  show wpF (execS (kitOf pg (n + 1)) pg.fields b_is_name [some (.p d), none, none] st) _
  unfold b_is_name
  cases d with
  | str s =>
    have hs := h s rfl
    refine s_seq (if_is (t := false) (by walk_at "is") (fun z => by cases z) fun _ => s_skip (s_seq (asg_is (isD_split (by walk_at "is") (by decide +kernel) hs) (ret_is (v := .p (.bool (nameB s))) ?_ ⟨by simp, .inl rfl⟩))))
    unfold nameB
    have el : ((Txt.split s dot).map PyData.str).length = (Txt.split s dot).length := by simp
    refine is_and (is_cmpI (i := (Txt.split s dot).length) (j := 4) (by rw [← el]; exact len_list (by walk_at "is")) (by walk_at "is") rfl) fun _ => ?_
    rw [← all_strs (Txt.split s dot) wordD wordB fun _ => rfl]
    refine is_all (i_lst (by walk_at "is")) (fun d hd => ?_) (by have := split_le s dot; rw [el]; omega)
    obtain ⟨w, hw, rfl⟩ := List.mem_map.mp hd
    refine is_1 (by walk_at "is") (r_is_word wf fun z e => ?_)
    cases e
    have := split_mem (s := s) (b := dot) (by decide +kernel) (by decide +kernel) hw
    omega
  | _ => exact s_seq (if_is (t := true) (by walk_at "is") (fun _ => ret_is (by walk_at "is") ⟨by simp, .inl rfl⟩) fun z => by cases z)
end K05
end

section
/-! words, names, statements: what the defs hand out. -/
namespace K05
open PySem Vm
local macro_rules | `(tactic| walk_at "x1") => `(tactic| first
  | (with_reducible refine x_var ?_ ?_; exact rfl) | (with_reducible refine x_con ?_) | (with_reducible refine x_glo ?_ ?_; exact rfl) | (with_reducible refine x_bin ?_) | (with_reducible refine x_and ?_) | (with_reducible refine x_or ?_) | (with_reducible refine x_not ?_)
  | (with_reducible refine x_ite ?_) | (with_reducible refine x_cmp ?_) | (with_reducible refine x_chn ?_) | (with_reducible refine x_tup ?_) | (with_reducible refine x_lst ?_) | (with_reducible refine x_idx ?_) | (with_reducible refine x_slc ?_) | (with_reducible refine x_call ?_) | (with_reducible refine x_callk ?_)
  | (with_reducible refine x_bi ?_) | (with_reducible refine x_mth ?_) | (with_reducible refine x_isi ?_) | (with_reducible refine l_nil ?_) | (with_reducible refine l_cons ?_) | (with_reducible refine o_nil ?_) | (with_reducible refine o_some ?_) | (with_reducible refine t_nil ?_) | (with_reducible refine t_some ?_)
  | (with_reducible refine s_skip ?_) | (with_reducible refine s_seq ?_) | (with_reducible refine s_asg ?_) | (with_reducible refine s_asgT ?_) | (with_reducible refine s_ex ?_) | (with_reducible refine s_ret ?_) | (with_reducible refine s_ife ?_)
  | (with_reducible refine wpO_of ?_ ?_; exact rfl) | (with_reducible refine wpO_of (isi_p ?_) ?_; exact rfl))
local macro_rules | `(tactic| walk_at "xs") => `(tactic| repeat (walk_at "x1"; try dsimp only))
local macro_rules | `(tactic| walk_at "is") => `(tactic| (refine Is.of ?_; walk_at "xs"; exact ⟨rfl, rfl⟩))

def relB (s : Str) : Bool := (decide (1 ≤ (s.length : Int) - ((Txt.lstripChars s dot).length : Int)) && decide ((s.length : Int) - ((Txt.lstripChars s dot).length : Int) ≤ 4)) && (Txt.lstripChars s dot == ("" : Str) || nameB (Txt.lstripChars s dot))
def relD : PyData → Bool
  | .str s => relB s
  | _ => false
def intD : PyData → Bool
  | .int _ => true
  | _ => false
def refD (d : PyData) : Bool := nameD d || relD d
def wordsB (ds : List PyData) (m : Int) : Bool := (decide (1 ≤ (ds.length : Int)) && decide ((ds.length : Int) ≤ m)) && ds.all wordD
def wordsD (d : PyData) (m : Int) : Bool := match d with
  | .tuple ds => wordsB ds m
  | _ => false
theorem r_is_relative {n : Nat} {d : PyData} {st : Store} (wf : WFs st) (h : ∀ s, d = .str s → s.length + 2 ≤ SZ) : runF pg (n + 3) i_is_relative [.p d] st = .ok (.p (.bool (relD d))) st := by
  refine f_is rfl rfl rfl wf ?_
  show wpF (execS (kitOf pg (n + 2)) pg.fields b_is_relative [some (.p d), none] st) _
  unfold b_is_relative
  cases d with
  | str s =>
    have hs := h s rfl
    have hl := lstrip_le s dot
    refine s_seq (if_is (t := false) (by walk_at "is") (fun z => by cases z) fun _ => s_skip (s_seq (asg_is (isD_lstrip (by walk_at "is") (by omega)) (ret_is (v := .p (.bool (relB s))) ?_ ⟨by simp, .inl rfl⟩))))
    have e1 := is_sub (len_str (K := kitOf pg (n + 2)) (env := [some (.p (.str s)), some (.p (.str (Txt.lstripChars s dot)))]) (st := st) (is_var (i := 0) rfl) (by omega)) (len_str (is_var (i := 1) rfl) (by omega))
    have e2 := r_is_name (n := n) (d := .str (Txt.lstripChars s dot)) wf fun z e => by cases e; omega
    exact is_and (is_chnI (i := 1) (k := 4) is_con e1 (is_glo rfl) rfl rfl) fun _ => is_or (is_eqS (is_var rfl) is_con) fun _ => is_1 (is_var rfl) e2
  | _ => exact s_seq (if_is (t := true) (by walk_at "is") (fun _ => ret_is (by walk_at "is") ⟨by simp, .inl rfl⟩) fun z => by cases z)
theorem r_is_integer {n : Nat} {d : PyData} {st : Store} (wf : WFs st) : runF pg (n + 1) i_is_integer [.p d] st = .ok (.p (.bool (intD d))) st := by
  refine f_is rfl rfl rfl wf ?_
  show wpF (execS (kitOf pg n) pg.fields b_is_integer [some (.p d)] st) _
  unfold b_is_integer
  have e : intD d = ([Ty.int].any (tyb d) && !([Ty.bool].any (tyb d))) := by cases d <;> rfl
  rw [e]
  exact ret_is (is_and (is_isi (is_var rfl) rfl) fun _ => is_not (is_isi (is_var rfl) rfl)) ⟨by simp, .inl rfl⟩
theorem r_is_reference {n : Nat} {d : PyData} {st : Store} (wf : WFs st) (h : ∀ s, d = .str s → s.length + 2 ≤ SZ) : runF pg (n + 4) i_is_reference [.p d] st = .ok (.p (.bool (refD d))) st := by
  refine f_is rfl rfl rfl wf ?_
  show wpF (execS (kitOf pg (n + 3)) pg.fields b_is_reference [some (.p d)] st) _
  unfold b_is_reference
  exact ret_is (is_or (is_1 (is_var rfl) (r_is_name wf h)) fun _ => is_1 (is_var rfl) (r_is_relative wf h)) ⟨by simp, .inl rfl⟩
theorem r_are_words {n : Nat} {d : PyData} {m : Int} {st : Store} (wf : WFs st) (h : tame d = true) : runF pg (n + 2) i_are_words [.p d, .p (.int m)] st = .ok (.p (.bool (wordsD d m))) st := by
  refine f_is rfl rfl rfl wf ?_
  show wpF (execS (kitOf pg (n + 1)) pg.fields b_are_words [some (.p d), some (.p (.int m)), none] st) _
  unfold b_are_words
  refine ret_is (v := .p (.bool (wordsD d m))) ?_ ⟨by simp, .inl rfl⟩
  cases d with
  | tuple ds =>
    obtain ⟨hl, he⟩ := tame_tup h
    have := SZ4
    exact is_and (t1 := true) (t2 := wordsB ds m) (by walk_at "is") fun _ => is_and (is_chnI (i := 1) (j := ds.length) (k := m) is_con (len_tup (is_var rfl)) (is_var rfl) rfl rfl) fun _ => is_all (i_tup (is_var rfl)) (fun x hx => is_1 (is_var rfl) (r_is_word wf fun s e => by have := tame_s (he x hx) s e; omega)) (by omega)
  | _ => exact is_and (t1 := false) (t2 := false) (by walk_at "is") fun z => by cases z
def absI : PyData → Int
  | .int i => if i < 0 then -i else i
  | _ => 0
def plainB (w : Str) (r : List PyData) : Bool :=
  if w == ("let" : Str) then (r.length : Int) == 2 && (wordD (r.getD 0 .none) && (intD (r.getD 1 .none) && decide (absI (r.getD 1 .none) < 1000000000000000000000000000000)))
  else if w == ("\x69mport" : Str) then (r.length : Int) == 1 && nameD (r.getD 0 .none)
  else if w == ("as" : Str) then (r.length : Int) == 2 && (refD (r.getD 0 .none) && wordD (r.getD 1 .none))
  else if w == ("from" : Str) then (r.length : Int) == 3 && (refD (r.getD 0 .none) && (wordD (r.getD 1 .none) && wordD (r.getD 2 .none)))
  else if w == ("star" : Str) then (r.length : Int) == 1 && refD (r.getD 0 .none)
  else if w == ("public" : Str) then (r.length : Int) == 1 && wordsD (r.getD 0 .none) 40
  else if w == ("read" : Str) then (r.length : Int) == 2 && (wordsD (r.getD 0 .none) 6 && wordD (r.getD 1 .none))
  else if w == ("need" : Str) then (r.length : Int) == 1 && wordsD (r.getD 0 .none) 6
  else if w == ("forget" : Str) then (r.length : Int) == 1 && wordD (r.getD 0 .none)
  else w == ("stop" : Str) && (r.length : Int) == 0
theorem len1 {r : List PyData} (h : ((r.length : Int) == 1) = true) : ∃ a, r = [a] := by
  have h : (r.length : Int) = 1 := by simpa using h
  match r, h with
  | [a], _ => exact ⟨a, rfl⟩
  | [], h => simp at h
  | _ :: _ :: _, h => simp at h; omega
theorem len2 {r : List PyData} (h : ((r.length : Int) == 2) = true) : ∃ a b, r = [a, b] := by
  have h : (r.length : Int) = 2 := by simpa using h
  match r, h with
  | [a, b], _ => exact ⟨a, b, rfl⟩
  | [], h => simp at h
  | [_], h => simp at h
  | _ :: _ :: _ :: _, h => simp at h; omega
theorem len3 {r : List PyData} (h : ((r.length : Int) == 3) = true) : ∃ a b c, r = [a, b, c] := by
  have h : (r.length : Int) = 3 := by simpa using h
  match r, h with
  | [a, b, c], _ => exact ⟨a, b, c, rfl⟩
  | [], h => simp at h
  | [_], h => simp at h
  | [_, _], h => simp at h
  | _ :: _ :: _ :: _ :: _, h => simp at h; omega
theorem pow30 : (10 : Int) ^ (30 : Int).toNat = 1000000000000000000000000000000 := by decide
theorem is_pow {K : Kit} {env : Vm.Env} {st : Store} : Is K (.bin .pow (.con (.int 10)) (.con (.int 30))) env st (.p (.int 1000000000000000000000000000000)) := Is.of (x_bin (x_con (x_con (wpO_of (a := .p (.int 1000000000000000000000000000000)) (by
  show (binD .pow (.int 10) (.int 30)).map Val.p = _
  unfold binD
  simp only
  rw [if_pos (by decide), pow30]
  rfl) ⟨rfl, rfl⟩))))
theorem r_is_plain {n : Nat} {w : Str} {r : List PyData} {st : Store} (wf : WFs st) (h : ∀ d ∈ r, tame d = true) (hl : r.length ≤ 4096) : runF pg (n + 5) i_is_plain_statement [.p (.tuple (.str w :: r))] st = .ok (.p (.bool (plainB w r))) st := by
  refine f_is rfl rfl rfl wf ?_
  show wpF (execS (kitOf pg (n + 4)) pg.fields b_is_plain_statement [some (.p (.tuple (.str w :: r))), none, none, none] st) _
  unfold b_is_plain_statement
  refine s_seq (s_asgT (x_tup (l_cons (x_idx (x_var rfl (x_con (wpO_of (a := .p (.str w)) (idx_tup (j := 0) rfl) ?_)))))))
  refine l_cons (x_slc (x_var rfl (o_some (x_con ⟨1, rfl, o_nil (wpO_of (a := .p (.tuple r)) ?_ (l_nil ?_))⟩))))
  · show (slcD (some 1) none (.tuple (.str w :: r))).map Val.p = _
    unfold slcD cutL
    have e1 : HT.sIx (r.length + 1) 0 (some 1) = 1 := by
      unfold HT.sIx
      simp
    have e2 : HT.sIx (r.length + 1) (r.length + 1) none = r.length + 1 := rfl
    simp only [List.length_cons, e1, e2]
    simp
  · refine ⟨by show 2 ≤ SZ; decide, wpO_of (a := [some (.p (.tuple (.str w :: r))), some (.p (.str w)), some (.p (.tuple r)), none]) rfl ?_⟩
    dsimp only
    have env : Vm.Env := [some (.p (.tuple (.str w :: r))), some (.p (.str w)), some (.p (.tuple r)), some (.p (.int r.length))]
    refine s_seq (asg_is (len_tup (is_var rfl)) ?_)
    show wpF (execS (kitOf pg (n + 4)) pg.fields _ [some (.p (.tuple (.str w :: r))), some (.p (.str w)), some (.p (.tuple r)), some (.p (.int r.length))] st) _
    have fin : ∀ {x : Ex} {t : Bool} {nx : Vm.Env → Store → Prop}, t = plainB w r → Is (kitOf pg (n + 4)) x [some (.p (.tuple (.str w :: r))), some (.p (.str w)), some (.p (.tuple r)), some (.p (.int r.length))] st (.p (.bool t)) →
        wpF (execS (kitOf pg (n + 4)) pg.fields (.ret x) [some (.p (.tuple (.str w :: r))), some (.p (.str w)), some (.p (.tuple r)), some (.p (.int r.length))] st)
          { nx := nx, rt := fun v s => s.take st.length = st ∧ (v = .p (.bool (plainB w r)) ∨ ∃ k, v = .r k ∧ st.length ≤ k ∧ see s v = .p (.bool (plainB w r))) } := fun {x t nx} e h => by
      subst e
      exact ret_is h ⟨by simp, .inl rfl⟩
    have W : ∀ {d : PyData}, d ∈ r → runF pg (n + 4) i_is_word [.p d] st = .ok (.p (.bool (wordD d))) st := fun {d} hd => r_is_word (n := n + 3) wf fun s e => by have := tame_s (h d hd) s e; omega
    have N : ∀ {d : PyData}, d ∈ r → runF pg (n + 4) i_is_name [.p d] st = .ok (.p (.bool (nameD d))) st := fun {d} hd => r_is_name (n := n + 2) wf (tame_s (h d hd))
    have R : ∀ {d : PyData}, d ∈ r → runF pg (n + 4) i_is_reference [.p d] st = .ok (.p (.bool (refD d))) st := fun {d} hd => r_is_reference wf (tame_s (h d hd))
    have A : ∀ {d : PyData} {m : Int}, d ∈ r → runF pg (n + 4) i_are_words [.p d, .p (.int m)] st = .ok (.p (.bool (wordsD d m))) st := fun {d m} hd => r_are_words (n := n + 2) wf (h d hd)
    refine s_seq (if_is (is_eqS (is_var rfl) is_con) (fun e => fin (by unfold plainB; rw [if_pos e]) ?_) fun e1 => s_skip ?_)
    · refine is_and (is_eqI (is_var rfl) is_con) fun z => ?_
      obtain ⟨a, b, rfl⟩ := len2 z
      refine is_and (is_1 (by walk_at "is") (W (by simp))) fun _ => ?_
      refine is_and (is_1 (by walk_at "is") (r_is_integer (n := n + 3) wf)) fun zi => ?_
      cases b with
      | int i => exact is_cmpI (i := if i < 0 then -i else i) (Is.of (x_bi (l_cons (x_idx (x_var rfl (x_con (wpO_of (a := .p (.int i)) rfl (l_nil (wpO_of (a := .p (.int (if i < 0 then -i else i))) rfl ⟨rfl, rfl⟩))))))))) is_pow rfl
      | _ => exact absurd zi Bool.false_ne_true
    refine s_seq (if_is (is_eqS (is_var rfl) is_con) (fun e => fin (by unfold plainB; rw [if_neg (by rw [e1]; decide), if_pos e]) ?_) fun e2 => s_skip ?_)
    · refine is_and (is_eqI (is_var rfl) is_con) fun z => ?_
      obtain ⟨a, rfl⟩ := len1 z
      exact is_1 (by walk_at "is") (N (by simp))
    refine s_seq (if_is (is_eqS (is_var rfl) is_con) (fun e => fin (by unfold plainB; rw [if_neg (by rw [e1]; decide), if_neg (by rw [e2]; decide), if_pos e]) ?_) fun e3 => s_skip ?_)
    · refine is_and (is_eqI (is_var rfl) is_con) fun z => ?_
      obtain ⟨a, b, rfl⟩ := len2 z
      exact is_and (is_1 (by walk_at "is") (R (by simp))) fun _ => is_1 (by walk_at "is") (W (by simp))
    refine s_seq (if_is (is_eqS (is_var rfl) is_con) (fun e => fin (by unfold plainB; rw [if_neg (by rw [e1]; decide), if_neg (by rw [e2]; decide), if_neg (by rw [e3]; decide), if_pos e]) ?_) fun e4 => s_skip ?_)
    · refine is_and (is_eqI (is_var rfl) is_con) fun z => ?_
      obtain ⟨a, b, c, rfl⟩ := len3 z
      exact is_and (is_1 (by walk_at "is") (R (by simp))) fun _ => is_and (is_1 (by walk_at "is") (W (by simp))) fun _ => is_1 (by walk_at "is") (W (by simp))
    refine s_seq (if_is (is_eqS (is_var rfl) is_con) (fun e => fin (by unfold plainB; rw [if_neg (by rw [e1]; decide), if_neg (by rw [e2]; decide), if_neg (by rw [e3]; decide), if_neg (by rw [e4]; decide), if_pos e]) ?_) fun e5 => s_skip ?_)
    · refine is_and (is_eqI (is_var rfl) is_con) fun z => ?_
      obtain ⟨a, rfl⟩ := len1 z
      exact is_1 (by walk_at "is") (R (by simp))
    refine s_seq (if_is (is_eqS (is_var rfl) is_con) (fun e => fin (by unfold plainB; rw [if_neg (by rw [e1]; decide), if_neg (by rw [e2]; decide), if_neg (by rw [e3]; decide), if_neg (by rw [e4]; decide), if_neg (by rw [e5]; decide), if_pos e]) ?_) fun e6 => s_skip ?_)
    · refine is_and (is_eqI (is_var rfl) is_con) fun z => ?_
      obtain ⟨a, rfl⟩ := len1 z
      exact is_2 (by walk_at "is") (is_glo rfl) (A (by simp))
    refine s_seq (if_is (is_eqS (is_var rfl) is_con) (fun e => fin (by unfold plainB; rw [if_neg (by rw [e1]; decide), if_neg (by rw [e2]; decide), if_neg (by rw [e3]; decide), if_neg (by rw [e4]; decide), if_neg (by rw [e5]; decide), if_neg (by rw [e6]; decide), if_pos e]) ?_) fun e7 => s_skip ?_)
    · refine is_and (is_eqI (is_var rfl) is_con) fun z => ?_
      obtain ⟨a, b, rfl⟩ := len2 z
      exact is_and (is_2 (by walk_at "is") (is_glo rfl) (A (by simp))) fun _ => is_1 (by walk_at "is") (W (by simp))
    refine s_seq (if_is (is_eqS (is_var rfl) is_con) (fun e => fin (by unfold plainB; rw [if_neg (by rw [e1]; decide), if_neg (by rw [e2]; decide), if_neg (by rw [e3]; decide), if_neg (by rw [e4]; decide), if_neg (by rw [e5]; decide), if_neg (by rw [e6]; decide), if_neg (by rw [e7]; decide), if_pos e]) ?_) fun e8 => s_skip ?_)
    · refine is_and (is_eqI (is_var rfl) is_con) fun z => ?_
      obtain ⟨a, rfl⟩ := len1 z
      exact is_2 (by walk_at "is") (is_glo rfl) (A (by simp))
    refine s_seq (if_is (is_eqS (is_var rfl) is_con) (fun e => fin (by unfold plainB; rw [if_neg (by rw [e1]; decide), if_neg (by rw [e2]; decide), if_neg (by rw [e3]; decide), if_neg (by rw [e4]; decide), if_neg (by rw [e5]; decide), if_neg (by rw [e6]; decide), if_neg (by rw [e7]; decide), if_neg (by rw [e8]; decide), if_pos e]) ?_) fun e9 => s_skip ?_)
    · refine is_and (is_eqI (is_var rfl) is_con) fun z => ?_
      obtain ⟨a, rfl⟩ := len1 z
      exact is_1 (by walk_at "is") (W (by simp))
    exact fin (by unfold plainB; rw [if_neg (by rw [e1]; decide), if_neg (by rw [e2]; decide), if_neg (by rw [e3]; decide), if_neg (by rw [e4]; decide), if_neg (by rw [e5]; decide), if_neg (by rw [e6]; decide), if_neg (by rw [e7]; decide), if_neg (by rw [e8]; decide), if_neg (by rw [e9]; decide)]) (is_and (is_eqS (is_var rfl) is_con) fun _ => is_eqI (is_var rfl) is_con)
end K05
end

section
/-! words, names, statements: what the defs hand out. -/
namespace K05
open PySem Vm
local macro_rules | `(tactic| walk_at "x1") => `(tactic| first
  | (with_reducible refine x_var ?_ ?_; exact rfl) | (with_reducible refine x_con ?_) | (with_reducible refine x_glo ?_ ?_; exact rfl) | (with_reducible refine x_bin ?_) | (with_reducible refine x_and ?_) | (with_reducible refine x_or ?_) | (with_reducible refine x_not ?_)
  | (with_reducible refine x_ite ?_) | (with_reducible refine x_cmp ?_) | (with_reducible refine x_chn ?_) | (with_reducible refine x_tup ?_) | (with_reducible refine x_lst ?_) | (with_reducible refine x_idx ?_) | (with_reducible refine x_slc ?_) | (with_reducible refine x_call ?_) | (with_reducible refine x_callk ?_)
  | (with_reducible refine x_bi ?_) | (with_reducible refine x_mth ?_) | (with_reducible refine x_isi ?_) | (with_reducible refine l_nil ?_) | (with_reducible refine l_cons ?_) | (with_reducible refine o_nil ?_) | (with_reducible refine o_some ?_) | (with_reducible refine t_nil ?_) | (with_reducible refine t_some ?_)
  | (with_reducible refine s_skip ?_) | (with_reducible refine s_seq ?_) | (with_reducible refine s_asg ?_) | (with_reducible refine s_asgT ?_) | (with_reducible refine s_ex ?_) | (with_reducible refine s_ret ?_) | (with_reducible refine s_ife ?_)
  | (with_reducible refine wpO_of ?_ ?_; exact rfl) | (with_reducible refine wpO_of (isi_p ?_) ?_; exact rfl))
local macro_rules | `(tactic| walk_at "xs") => `(tactic| repeat (walk_at "x1"; try dsimp only))
local macro_rules | `(tactic| walk_at "is") => `(tactic| (refine Is.of ?_; walk_at "xs"; exact ⟨rfl, rfl⟩))


def barL : List PyData := [.str "as", .str "from", .str "\x69mport", .str "init", .str "let", .str "need", .str "public", .str "read", .str "self", .str "star", .str "stop", .str "try", .str "except"]
def barM : List PyData := [.str "end", .str "forget"]
theorem bar_eq : barL ++ barM = d_RESERVED := rfl
theorem wordB_eq (s : Str) : wordB s = (!(!(decide (1 ≤ (s.length : Int)) && decide ((s.length : Int) ≤ 8)) || (d_RESERVED.any fun z => PyData.eqv z (.str s))) && s.cps.toList.all fun c => decide (c ∈ letters)) := by
  unfold wordB
  generalize (d_RESERVED.any fun z => PyData.eqv z (.str s)) = rb
  generalize (s.cps.toList.all fun c => decide (c ∈ letters)) = lb
  have a1 : decide (1 ≤ (s.length : Int)) = decide (1 ≤ s.length) := by apply decide_eq_decide.mpr; omega
  have a2 : decide ((s.length : Int) ≤ 8) = decide (s.length ≤ 8) := by apply decide_eq_decide.mpr; omega
  rw [a1, a2]
  cases decide (1 ≤ s.length) <;> cases decide (s.length ≤ 8) <;> cases rb <;> cases lb <;> rfl
theorem l_is_word {n : Nat} {d : PyData} {st : Store} (wf : WFs st) (h : ∀ s, d = .str s → s.length ≤ SZ) : runF pg (n + 1) i__law_is_word [.p d] st = .ok (.p (.bool (wordD d))) st := by
  refine f_is rfl rfl rfl wf ?_
  show wpF (execS (kitOf pg n) pg.fields b__law_is_word [some (.p d), none, none] st) _
  unfold b__law_is_word
  refine s_seq (asg_is (is_lst (ds := barL) (by simp [evalL, evalX, barL]) (by decide)) ?_)
  show wpF (execS (kitOf pg n) pg.fields _ [some (.p d), some (.p (.list barL)), none] st) _
  cases d with
  | str s =>
    have hs := h s rfl
    have e' : wordD (.str s) = _ := wordB_eq s
    refine s_seq (if_is (t := !(decide (1 ≤ (s.length : Int)) && decide ((s.length : Int) ≤ 8)) || (d_RESERVED.any fun z => PyData.eqv z (.str s))) ?_ (fun e => ?_) fun e => ?_)
    · refine is_or (t1 := false) (t2 := !(decide (1 ≤ (s.length : Int)) && decide ((s.length : Int) ≤ 8)) || (d_RESERVED.any fun z => PyData.eqv z (.str s))) (by walk_at "is") fun _ => is_or (is_not (is_chnI (i := 1) (j := s.length) (k := 8) is_con (len_str (is_var rfl) hs) is_con rfl rfl)) fun _ => ?_
      rw [← bar_eq]
      exact is_inL (is_var rfl) (is_addL (is_var rfl) (is_lst (ds := barM) (by simp [evalL, evalX, barM]) (by decide)) (by decide)) rfl (by decide +kernel)
    · rw [e', e]
      exact ret_is is_con ⟨by simp, .inl rfl⟩
    · rw [e', e]
      refine s_skip (ret_is (is_eqNil (is_flt (p := fun d => !(match inD d (.str sLetters) with | some b => b | none => true)) (charsOf s) (i_str (is_var rfl)) (fun d hd => ?_) (by show 2 < 3; decide) (by unfold charsOf; rw [List.length_map, Array.length_toList]; exact hs))) ⟨by simp, .inl ?_⟩)
      · obtain ⟨c, hc, rfl⟩ := List.mem_map.mp hd
        refine Is.of (x_cmp (x_var rfl (x_con (wpO_of (a := !(decide (c ∈ sLetters.cps.toList))) ?_ ⟨?_, rfl⟩))))
        · show (inD (.str ⟨#[c]⟩) (.str sLetters)).map (!·) = _
          rw [in_sign]
          rfl
        · simp only [in_sign]
      · rw [isEmpty_filter]
        unfold charsOf
        rw [List.all_map]
        simp only [Function.comp_def, in_sign, letters_eq]
        rfl
  | _ => exact s_seq (if_is (t := true) (is_or (t1 := true) (t2 := true) (by walk_at "is") fun z => by cases z) (fun _ => ret_is is_con ⟨by simp, .inl rfl⟩) fun z => by cases z)
theorem split_pos (s : Str) : 1 ≤ (Txt.split s dot).length := PyProof.Rows.split_pos s dot
theorem l_is_name {n : Nat} {d : PyData} {st : Store} (wf : WFs st) (h : ∀ s, d = .str s → s.length + 2 ≤ SZ) : runF pg (n + 2) i__law_is_name [.p d] st = .ok (.p (.bool (nameD d))) st := by
  refine f_is rfl rfl rfl wf ?_
  show wpF (execS (kitOf pg (n + 1)) pg.fields b__law_is_name [some (.p d), none] st) _
  unfold b__law_is_name
  cases d with
  | str s =>
    have hs := h s rfl
    have sp := split_pos s
    have el : ((Txt.split s dot).map PyData.str).length = (Txt.split s dot).length := by simp
    have isp : ∀ {env : Vm.Env}, env[0]? = some (some (.p (.str s))) → Is (kitOf pg (n + 1)) (.mth .split (.var 0) (.cons (.con (.str ".")) .nil)) env st (.p (.list ((Txt.split s dot).map .str))) := fun e => isD_split (is_var e) (by decide +kernel) hs
    refine s_seq (if_is (t := !(decide (1 ≤ ((Txt.split s dot).length : Int)) && decide (((Txt.split s dot).length : Int) ≤ 4))) ?_ (fun e => ?_) fun e => ?_)
    · refine is_or (t1 := false) (t2 := !(decide (1 ≤ ((Txt.split s dot).length : Int)) && decide (((Txt.split s dot).length : Int) ≤ 4))) (by walk_at "is") fun _ => is_not (is_chnI (i := 1) (k := 4) is_con (by rw [← el]; exact len_list (isp rfl)) is_con rfl rfl)
    · have e' : nameD (.str s) = false := by
        show nameB s = false
        unfold nameB
        have a1 : decide (1 ≤ ((Txt.split s dot).length : Int)) = true := by simp; omega
        rw [a1] at e
        simp only [Bool.true_and, Bool.not_eq_true'] at e
        rw [e]; rfl
      rw [e']
      exact ret_is is_con ⟨by simp, .inl rfl⟩
    · have e' : nameD (.str s) = (Txt.split s dot).all wordB := by
        show nameB s = _
        unfold nameB
        simp only [Bool.not_eq_false', Bool.and_eq_true] at e
        rw [e.2]; rfl
      refine s_skip (ret_is (is_eqNil (is_flt (p := fun d => !(wordD d)) ((Txt.split s dot).map .str) (i_lst (isp rfl)) (fun d hd => ?_) (by show 1 < 2; decide) (by have := split_le s dot; rw [el]; omega))) ⟨by simp, .inl ?_⟩)
      · obtain ⟨w, hw, rfl⟩ := List.mem_map.mp hd
        refine is_not (is_1 (is_var rfl) (l_is_word wf fun z e => ?_))
        cases e
        have := split_mem (s := s) (b := dot) (by decide +kernel) (by decide +kernel) hw
        omega
      · rw [e', isEmpty_filter, ← all_strs (Txt.split s dot) wordD wordB fun _ => rfl]
  | _ => exact s_seq (if_is (t := true) (is_or (t1 := true) (t2 := true) (by walk_at "is") fun z => by cases z) (fun _ => ret_is is_con ⟨by simp, .inl rfl⟩) fun z => by cases z)
theorem l_are_words {n : Nat} {d : PyData} {m : Int} {st : Store} (wf : WFs st) (h : tame d = true) : runF pg (n + 2) i__law_are_words [.p d, .p (.int m)] st = .ok (.p (.bool (wordsD d m))) st := by
  refine f_is rfl rfl rfl wf ?_
  show wpF (execS (kitOf pg (n + 1)) pg.fields b__law_are_words [some (.p d), some (.p (.int m)), none] st) _
  unfold b__law_are_words
  cases d with
  | tuple ds =>
    obtain ⟨hl, he⟩ := tame_tup h
    have := SZ4
    refine s_seq (if_is (t := !(decide (1 ≤ (ds.length : Int)) && decide ((ds.length : Int) ≤ m))) ?_ (fun e => ?_) fun e => ?_)
    · exact is_or (t1 := false) (t2 := !(decide (1 ≤ (ds.length : Int)) && decide ((ds.length : Int) ≤ m))) (by walk_at "is") fun _ => is_not (is_chnI (i := 1) (k := m) is_con (len_tup (is_var rfl)) (is_var rfl) rfl rfl)
    · have e' : wordsD (.tuple ds) m = false := by
        show wordsB ds m = false
        unfold wordsB
        simp only [Bool.not_eq_true'] at e
        rw [e]; rfl
      rw [e']
      exact ret_is is_con ⟨by simp, .inl rfl⟩
    · have e' : wordsD (.tuple ds) m = ds.all wordD := by
        show wordsB ds m = _
        unfold wordsB
        simp only [Bool.not_eq_false'] at e
        rw [e]; rfl
      refine s_skip (ret_is (is_eqNil (is_flt (p := fun d => !(wordD d)) ds (i_tup (is_var rfl)) (fun x hx => is_not (is_1 (is_var rfl) (l_is_word wf fun s e => by have := tame_s (he x hx) s e; omega))) (by show 2 < 3; decide) (by omega))) ⟨by simp, .inl ?_⟩)
      rw [e', isEmpty_filter]
  | _ => exact s_seq (if_is (t := true) (is_or (t1 := true) (t2 := true) (by walk_at "is") fun z => by cases z) (fun _ => ret_is is_con ⟨by simp, .inl rfl⟩) fun z => by cases z)
end K05
end

section
/-! words, names, statements: what the defs hand out. -/
namespace K05
open PySem Vm
local macro_rules | `(tactic| walk_at "x1") => `(tactic| first
  | (with_reducible refine x_var ?_ ?_; exact rfl) | (with_reducible refine x_con ?_) | (with_reducible refine x_glo ?_ ?_; exact rfl) | (with_reducible refine x_bin ?_) | (with_reducible refine x_and ?_) | (with_reducible refine x_or ?_) | (with_reducible refine x_not ?_)
  | (with_reducible refine x_ite ?_) | (with_reducible refine x_cmp ?_) | (with_reducible refine x_chn ?_) | (with_reducible refine x_tup ?_) | (with_reducible refine x_lst ?_) | (with_reducible refine x_idx ?_) | (with_reducible refine x_slc ?_) | (with_reducible refine x_call ?_) | (with_reducible refine x_callk ?_)
  | (with_reducible refine x_bi ?_) | (with_reducible refine x_mth ?_) | (with_reducible refine x_isi ?_) | (with_reducible refine l_nil ?_) | (with_reducible refine l_cons ?_) | (with_reducible refine o_nil ?_) | (with_reducible refine o_some ?_) | (with_reducible refine t_nil ?_) | (with_reducible refine t_some ?_)
  | (with_reducible refine s_skip ?_) | (with_reducible refine s_seq ?_) | (with_reducible refine s_asg ?_) | (with_reducible refine s_asgT ?_) | (with_reducible refine s_ex ?_) | (with_reducible refine s_ret ?_) | (with_reducible refine s_ife ?_)
  | (with_reducible refine wpO_of ?_ ?_; exact rfl) | (with_reducible refine wpO_of (isi_p ?_) ?_; exact rfl))
local macro_rules | `(tactic| walk_at "xs") => `(tactic| repeat (walk_at "x1"; try dsimp only))
local macro_rules | `(tactic| walk_at "is") => `(tactic| (refine Is.of ?_; walk_at "xs"; exact ⟨rfl, rfl⟩))



/-! ### leading periods -/
def lead (l : List Nat) : Nat := (l.takeWhile fun c => c == 46).length
theorem lead_le (l : List Nat) : lead l ≤ l.length := (List.takeWhile_prefix _).length_le
theorem lead_lt : ∀ {l : List Nat} {k : Nat}, k < lead l → l[k]? = some 46
  | [], k, h => by simp [lead] at h
  | c :: l, k, h => by
    unfold lead at h
    rw [List.takeWhile_cons] at h
    split at h
    · rename_i hc
      cases k with
      | zero => simp at hc; simp [hc]
      | succ k => simpa using lead_lt (l := l) (k := k) (by unfold lead; simpa using h)
    · simp at h
theorem lead_at : ∀ {l : List Nat}, l[lead l]? ≠ some 46
  | [] => by simp [lead]
  | c :: l => by
    unfold lead
    rw [List.takeWhile_cons]
    split
    · have := lead_at (l := l)
      unfold lead at this
      simpa using this
    · rename_i hc
      simp at hc
      simpa using hc
theorem str_ext {a b : Str} (h : a.cps.toList = b.cps.toList) : a = b := Str.ext' (Array.toList_inj.mp h)
theorem lstrip_dot (s : Str) : (Txt.lstripChars s dot).cps.toList = s.cps.toList.drop (lead s.cps.toList) := by
  unfold Txt.lstripChars
  rw [PyProof.Rows.stripBy_eq, StrLaws.strSub_toList]
  have e : (fun c => dot.cps.contains c) = fun c => c == 46 := by
    funext c
    have : dot.cps = #[46] := by decide +kernel
    rw [this]
    simp
    cases q : (c == 46) with
    | true => simpa using q
    | false => simpa using q
  have e1 : stripLo dot.cps.contains true s = lead s.cps.toList := by
    unfold stripLo lead
    rw [if_pos rfl]
    rw [show dot.cps.contains = fun c => c == 46 from e]
  have e2 : stripHi dot.cps.contains false s (stripLo dot.cps.contains true s) = s.length := by
    unfold stripHi
    rw [if_neg (by decide)]
  rw [e2, e1]
  have := lead_le s.cps.toList
  exact List.take_of_length_le (by simp [Str.length])
theorem lstrip_len (s : Str) : (Txt.lstripChars s dot).length = s.length - lead s.cps.toList := by
  have := congrArg List.length (lstrip_dot s)
  simp only [Array.length_toList, List.length_drop] at this
  exact this
theorem cut_one (s : Str) (k : Nat) : (L2.cutS s (some (k : Int)) (some ((k : Int) + 1))).cps.toList = (s.cps.toList.drop k).take 1 := by
  unfold L2.cutS
  have e : ((k : Int) + 1) = ((k + 1 : Nat) : Int) := by omega
  rw [e, HT.sIx_nat, HT.sIx_nat]
  have hn : s.length = s.cps.toList.length := by simp [Str.length]
  rw [hn]
  generalize s.cps.toList = l
  simp only
  rcases Nat.lt_or_ge k l.length with h | h
  · rw [Nat.min_eq_left (by omega), Nat.min_eq_left (by omega)]
    congr 1
    omega
  · rw [Nat.min_eq_right (by omega), Nat.min_eq_right (by omega), List.drop_of_length_le h, List.drop_length]
    simp
theorem cut_end (s : Str) (k : Nat) : (L2.cutS s (some (k : Int)) none).cps.toList = s.cps.toList.drop k := by
  unfold L2.cutS
  rw [HT.sIx_nat, HT.sIx_none]
  have hn : s.length = s.cps.toList.length := by simp [Str.length]
  rw [hn]
  generalize s.cps.toList = l
  simp only
  rcases Nat.lt_or_ge k l.length with h | h
  · rw [Nat.min_eq_left (by omega)]
    exact List.take_of_length_le (by simp)
  · rw [Nat.min_eq_right (by omega), List.drop_length, List.drop_of_length_le h]
    simp
theorem is_cut {K : Kit} {a lo hi : Ex} {env : Vm.Env} {st : Store} {s : Str} {i j : Option Int} (h1 : Is K a env st (.p (.str s))) (h2 : evalO K lo env st = .ok i st) (h3 : evalO K hi env st = .ok j st) (h : s.length ≤ SZ) : Is K (.slc a lo hi) env st (.p (.str (L2.cutS s i j))) :=
  Is.of (x_slc (h1.wp (wp_eq h2 (wp_eq h3 (wpO_of (a := .p (.str (L2.cutS s i j))) (by
    show (slcD i j (.str s)).map Val.p = _
    unfold slcD
    simp only
    rw [if_pos h]
    rfl) ⟨rfl, rfl⟩)))))
theorem cut_is (s : Str) (k : Nat) : (L2.cutS s (some (k : Int)) (some ((k : Int) + 1)) == dot) = decide (s.cps.toList[k]? = some 46) := by
  have h := cut_one s k
  have hd : dot.cps.toList = [46] := by decide +kernel
  rw [Bool.eq_iff_iff, beq_iff_eq, decide_eq_true_eq]
  constructor
  · intro e
    rw [e, hd] at h
    have := StrLaws.take1_drop (l := s.cps.toList) (c := 46) (i := k)
    exact this.mp (by rw [← h]; rfl)
  · intro e
    have := (StrLaws.take1_drop (l := s.cps.toList) (c := 46) (i := k)).mpr e
    apply str_ext
    rw [h, hd]
    simpa using this
theorem l_is_reference {n : Nat} {d : PyData} {st : Store} (wf : WFs st) (h : tame d = true) : runF pg (n + 3) i__law_is_reference [.p d] st = .ok (.p (.bool (refD d))) st := by
  have hh := tame_s h
  refine f_is rfl rfl rfl wf ?_
  show wpF (execS (kitOf pg (n + 2)) pg.fields b__law_is_reference [some (.p d), none, none] st) _
  unfold b__law_is_reference
  cases d with
  | str s =>
    have hs := hh s rfl
    have ht := tame_str h
    refine s_seq (if_is (t := false) (by walk_at "is") (fun z => by cases z) fun _ => s_skip (s_seq (asg_is is_con ?_)))
    show wpF (execS (kitOf pg (n + 2)) pg.fields _ [some (.p (.str s)), some (.p (.int 0)), none] st) _
    have ll := lead_le s.cps.toList
    have hn : s.cps.toList.length = s.length := by simp [Str.length]
    refine s_seq (s_whl (lead s.cps.toList) (fun m env s1 => s1 = st ∧ ∃ k : Nat, k + m = lead s.cps.toList ∧ env = [some (.p (.str s)), some (.p (.int k)), none]) (by show _ < 100000; omega) ⟨rfl, 0, by omega, rfl⟩ ?_)
    rintro m env s1 ⟨rfl, k, hk, rfl⟩
    refine t_some (Is.wp (v := .p (.bool (decide (s.cps.toList[k]? = some 46)))) ?_ (wpO_of (a := decide (s.cps.toList[k]? = some 46)) rfl (wpB_mk (fun e => ?_) fun e => ?_)))
    · rw [← cut_is]
      exact is_eqS (is_cut (is_var rfl) (eq_of (o_some ((is_var (v := .p (.int k)) rfl).wp ⟨k, rfl, rfl, rfl⟩))) (eq_of (o_some ((is_add (i := k) (j := 1) (is_var rfl) is_con).wp ⟨_, rfl, rfl, rfl⟩))) (by omega)) is_con
    · have e : s.cps.toList[k]? = some 46 := by simpa using e
      have hlt : k < lead s.cps.toList := by
        rcases Nat.lt_or_ge k (lead s.cps.toList) with q | q
        · exact q
        · have : k = lead s.cps.toList := by omega
          rw [this] at e
          exact absurd e lead_at
      refine ⟨m - 1, by omega, asg_is (is_add (i := k) (j := 1) (is_var rfl) is_con) ⟨rfl, k + 1, by omega, ?_⟩⟩
      rfl
    · have e : s.cps.toList[k]? ≠ some 46 := by simpa using e
      have hkl : k = lead s.cps.toList := by
        rcases Nat.lt_or_ge k (lead s.cps.toList) with q | q
        · exact absurd (lead_lt q) e
        · omega
      have rest : L2.cutS s (some (k : Int)) none = Txt.lstripChars s dot := str_ext (by rw [cut_end, lstrip_dot, hkl])
      have many : (k : Int) = (s.length : Int) - ((Txt.lstripChars s dot).length : Int) := by rw [lstrip_len, ← hkl]; omega
      refine s_seq (asg_is (is_cut (is_var rfl) (eq_of (o_some ((is_var (v := .p (.int k)) rfl).wp ⟨k, rfl, rfl, rfl⟩))) (eq_of (o_nil ⟨rfl, rfl⟩)) (by omega)) ?_)
      show wpF (execS (kitOf pg (n + 2)) pg.fields _ [some (.p (.str s)), some (.p (.int k)), some (.p (.str (L2.cutS s (some (k : Int)) none)))] s1) _
      rw [rest, many]
      have hl := lstrip_le s dot
      have e2 := l_is_name (n := n) (d := .str (Txt.lstripChars s dot)) (st := s1) wf fun z e => by cases e; omega
      refine ret_is (v := .p (.bool (refD (.str s)))) ?_ ⟨by simp, .inl rfl⟩
      exact is_or (is_1 (is_var rfl) (l_is_name wf hh)) fun _ => is_and (is_chnI (i := 1) (k := 4) is_con (is_var rfl) is_con rfl rfl) fun _ => is_or (is_eqS (is_var rfl) is_con) fun _ => is_1 (is_var rfl) e2
  | _ => exact s_seq (if_is (t := true) (by walk_at "is") (fun _ => ret_is (by walk_at "is") ⟨by simp, .inl rfl⟩) fun z => by cases z)
end K05
end

section
/-! words, names, statements: what the defs hand out. -/
namespace K05
open PySem Vm
local macro_rules | `(tactic| walk_at "x1") => `(tactic| first
  | (with_reducible refine x_var ?_ ?_; exact rfl) | (with_reducible refine x_con ?_) | (with_reducible refine x_glo ?_ ?_; exact rfl) | (with_reducible refine x_bin ?_) | (with_reducible refine x_and ?_) | (with_reducible refine x_or ?_) | (with_reducible refine x_not ?_)
  | (with_reducible refine x_ite ?_) | (with_reducible refine x_cmp ?_) | (with_reducible refine x_chn ?_) | (with_reducible refine x_tup ?_) | (with_reducible refine x_lst ?_) | (with_reducible refine x_idx ?_) | (with_reducible refine x_slc ?_) | (with_reducible refine x_call ?_) | (with_reducible refine x_callk ?_)
  | (with_reducible refine x_bi ?_) | (with_reducible refine x_mth ?_) | (with_reducible refine x_isi ?_) | (with_reducible refine l_nil ?_) | (with_reducible refine l_cons ?_) | (with_reducible refine o_nil ?_) | (with_reducible refine o_some ?_) | (with_reducible refine t_nil ?_) | (with_reducible refine t_some ?_)
  | (with_reducible refine s_skip ?_) | (with_reducible refine s_seq ?_) | (with_reducible refine s_asg ?_) | (with_reducible refine s_asgT ?_) | (with_reducible refine s_ex ?_) | (with_reducible refine s_ret ?_) | (with_reducible refine s_ife ?_)
  | (with_reducible refine wpO_of ?_ ?_; exact rfl) | (with_reducible refine wpO_of (isi_p ?_) ?_; exact rfl))
local macro_rules | `(tactic| walk_at "xs") => `(tactic| repeat (walk_at "x1"; try dsimp only))
local macro_rules | `(tactic| walk_at "is") => `(tactic| (refine Is.of ?_; walk_at "xs"; exact ⟨rfl, rfl⟩))




def F7 : List (PyData × PyData) := [(.str "let", .str "wi"), (.str "\x69mport", .str "n"), (.str "as", .str "rw"), (.str "from", .str "rww"), (.str "star", .str "r"), (.str "public", .str "m"), (.str "read", .str "pw")]
def F3 : List (PyData × PyData) := [(.str "need", .str "p"), (.str "stop", .str ""), (.str "forget", .str "w")]
def FO : List (PyData × PyData) := [(.str "let", .str "wi"), (.str "\x69mport", .str "n"), (.str "as", .str "rw"), (.str "from", .str "rww"), (.str "star", .str "r"), (.str "public", .str "m"), (.str "read", .str "pw"), (.str "need", .str "p"), (.str "stop", .str ""), (.str "forget", .str "w")]
def okS (c : Nat) (d : PyData) : Bool := if c == 119 then wordD d else if c == 105 then intD d && decide (absI d < 1000000000000000000000000000000) else if c == 110 then nameD d else if c == 114 then refD d else wordsD d (if c == 112 then 6 else 40)
def formL (w : Str) : Option (List Nat) :=
  if w == ("let" : Str) then some [119, 105]
  else if w == ("\x69mport" : Str) then some [110]
  else if w == ("as" : Str) then some [114, 119]
  else if w == ("from" : Str) then some [114, 119, 119]
  else if w == ("star" : Str) then some [114]
  else if w == ("public" : Str) then some [109]
  else if w == ("read" : Str) then some [112, 119]
  else if w == ("need" : Str) then some [112]
  else if w == ("forget" : Str) then some [119]
  else if w == ("stop" : Str) then some []
  else none
def m1 (p : PyData → Bool) : List PyData → Bool
  | [a] => p a
  | _ => false
def m2 (p : PyData → PyData → Bool) : List PyData → Bool
  | [a, b] => p a b
  | _ => false
def m3 (p : PyData → PyData → PyData → Bool) : List PyData → Bool
  | [a, b, c] => p a b c
  | _ => false
theorem l1 (p : PyData → Bool) : ∀ r : List PyData, ((r.length : Int) == 1 && p (r.getD 0 .none)) = m1 p r
  | [] => rfl
  | [a] => by simp [m1]
  | a :: b :: t => by simp [m1]; omega
theorem l2 (p : PyData → PyData → Bool) : ∀ r : List PyData, ((r.length : Int) == 2 && p (r.getD 0 .none) (r.getD 1 .none)) = m2 p r
  | [] => rfl
  | [a] => rfl
  | [a, b] => by simp [m2]
  | a :: b :: c :: t => by simp [m2]; omega
theorem l3 (p : PyData → PyData → PyData → Bool) : ∀ r : List PyData, ((r.length : Int) == 3 && p (r.getD 0 .none) (r.getD 1 .none) (r.getD 2 .none)) = m3 p r
  | [] => rfl
  | [a] => rfl
  | [a, b] => rfl
  | [a, b, c] => by simp [m3]
  | a :: b :: c :: d :: t => by simp [m3]; omega
theorem z1 (c : Nat) : ∀ r : List PyData, ((r.length == 1) && ([c].zip r).all fun q => okS q.1 q.2) = m1 (okS c) r
  | [] => rfl
  | [a] => by simp [m1]
  | a :: b :: t => by simp [m1]
theorem z2 (c d : Nat) : ∀ r : List PyData, ((r.length == 2) && ([c, d].zip r).all fun q => okS q.1 q.2) = m2 (fun a b => okS c a && okS d b) r
  | [] => rfl
  | [a] => rfl
  | [a, b] => by simp [m2]
  | a :: b :: e :: t => by simp [m2]
theorem z3 (c d e : Nat) : ∀ r : List PyData, ((r.length == 3) && ([c, d, e].zip r).all fun q => okS q.1 q.2) = m3 (fun a b x => okS c a && (okS d b && okS e x)) r
  | [] => rfl
  | [a] => rfl
  | [a, b] => rfl
  | [a, b, x] => by simp [m3]
  | a :: b :: x :: y :: t => by simp [m3]
theorem form_plain (w : Str) (r : List PyData) : plainB w r = match formL w with
    | some cs => (r.length == cs.length) && (cs.zip r).all fun q => okS q.1 q.2
    | none => false := by
  unfold plainB formL
  by_cases h0 : (w == ("let" : Str)) = true
  · rw [if_pos h0, if_pos h0]
    exact (l2 (fun a b => wordD a && (intD b && decide (absI b < 1000000000000000000000000000000))) r).trans (z2 119 105 r).symm
  by_cases h1 : (w == ("\x69mport" : Str)) = true
  · rw [if_neg h0, if_neg h0, if_pos h1, if_pos h1]
    exact (l1 (nameD) r).trans (z1 110 r).symm
  by_cases h2 : (w == ("as" : Str)) = true
  · rw [if_neg h0, if_neg h0, if_neg h1, if_neg h1, if_pos h2, if_pos h2]
    exact (l2 (fun a b => refD a && wordD b) r).trans (z2 114 119 r).symm
  by_cases h3 : (w == ("from" : Str)) = true
  · rw [if_neg h0, if_neg h0, if_neg h1, if_neg h1, if_neg h2, if_neg h2, if_pos h3, if_pos h3]
    exact (l3 (fun a b c => refD a && (wordD b && wordD c)) r).trans (z3 114 119 119 r).symm
  by_cases h4 : (w == ("star" : Str)) = true
  · rw [if_neg h0, if_neg h0, if_neg h1, if_neg h1, if_neg h2, if_neg h2, if_neg h3, if_neg h3, if_pos h4, if_pos h4]
    exact (l1 (refD) r).trans (z1 114 r).symm
  by_cases h5 : (w == ("public" : Str)) = true
  · rw [if_neg h0, if_neg h0, if_neg h1, if_neg h1, if_neg h2, if_neg h2, if_neg h3, if_neg h3, if_neg h4, if_neg h4, if_pos h5, if_pos h5]
    exact (l1 (fun a => wordsD a 40) r).trans (z1 109 r).symm
  by_cases h6 : (w == ("read" : Str)) = true
  · rw [if_neg h0, if_neg h0, if_neg h1, if_neg h1, if_neg h2, if_neg h2, if_neg h3, if_neg h3, if_neg h4, if_neg h4, if_neg h5, if_neg h5, if_pos h6, if_pos h6]
    exact (l2 (fun a b => wordsD a 6 && wordD b) r).trans (z2 112 119 r).symm
  by_cases h7 : (w == ("need" : Str)) = true
  · rw [if_neg h0, if_neg h0, if_neg h1, if_neg h1, if_neg h2, if_neg h2, if_neg h3, if_neg h3, if_neg h4, if_neg h4, if_neg h5, if_neg h5, if_neg h6, if_neg h6, if_pos h7, if_pos h7]
    exact (l1 (fun a => wordsD a 6) r).trans (z1 112 r).symm
  by_cases h8 : (w == ("forget" : Str)) = true
  · rw [if_neg h0, if_neg h0, if_neg h1, if_neg h1, if_neg h2, if_neg h2, if_neg h3, if_neg h3, if_neg h4, if_neg h4, if_neg h5, if_neg h5, if_neg h6, if_neg h6, if_neg h7, if_neg h7, if_pos h8, if_pos h8]
    exact (l1 (wordD) r).trans (z1 119 r).symm
  rw [if_neg h0, if_neg h0, if_neg h1, if_neg h1, if_neg h2, if_neg h2, if_neg h3, if_neg h3, if_neg h4, if_neg h4, if_neg h5, if_neg h5, if_neg h6, if_neg h6, if_neg h7, if_neg h7, if_neg h8, if_neg h8]
  cases h : (w == ("stop" : Str)) with
  | true => 
    match r with
    | [] => rfl
    | a :: t => simp; omega
  | false => rfl
theorem get_form (w : Str) : (FO.any fun q => PyData.eqv q.1 (.str w)) = (formL w).isSome ∧ ∀ cs, formL w = some cs → ∃ z : Str, getK FO (.str w) = some (.str z) ∧ z.cps.toList = cs := by
  have sw : ∀ k : Str, PyData.eqv (.str k) (.str w) = (w == k) := fun k => by
    simp only [PyData.eqv]
    rw [Bool.eq_iff_iff, beq_iff_eq, beq_iff_eq]
    exact eq_comm
  by_cases h0 : (w == ("let" : Str)) = true
  · rw [eq_of_beq h0]; exact ⟨by decide +kernel, fun cs e => ⟨"wi", by kernel_rfl, by
      have e2 : formL ("let" : Str) = some [119, 105] := by decide +kernel
      rw [e2] at e; cases e; decide +kernel⟩⟩
  by_cases h1 : (w == ("\x69mport" : Str)) = true
  · rw [eq_of_beq h1]; exact ⟨by decide +kernel, fun cs e => ⟨"n", by kernel_rfl, by
      have e2 : formL ("\x69mport" : Str) = some [110] := by decide +kernel
      rw [e2] at e; cases e; decide +kernel⟩⟩
  by_cases h2 : (w == ("as" : Str)) = true
  · rw [eq_of_beq h2]; exact ⟨by decide +kernel, fun cs e => ⟨"rw", by kernel_rfl, by
      have e2 : formL ("as" : Str) = some [114, 119] := by decide +kernel
      rw [e2] at e; cases e; decide +kernel⟩⟩
  by_cases h3 : (w == ("from" : Str)) = true
  · rw [eq_of_beq h3]; exact ⟨by decide +kernel, fun cs e => ⟨"rww", by kernel_rfl, by
      have e2 : formL ("from" : Str) = some [114, 119, 119] := by decide +kernel
      rw [e2] at e; cases e; decide +kernel⟩⟩
  by_cases h4 : (w == ("star" : Str)) = true
  · rw [eq_of_beq h4]; exact ⟨by decide +kernel, fun cs e => ⟨"r", by kernel_rfl, by
      have e2 : formL ("star" : Str) = some [114] := by decide +kernel
      rw [e2] at e; cases e; decide +kernel⟩⟩
  by_cases h5 : (w == ("public" : Str)) = true
  · rw [eq_of_beq h5]; exact ⟨by decide +kernel, fun cs e => ⟨"m", by kernel_rfl, by
      have e2 : formL ("public" : Str) = some [109] := by decide +kernel
      rw [e2] at e; cases e; decide +kernel⟩⟩
  by_cases h6 : (w == ("read" : Str)) = true
  · rw [eq_of_beq h6]; exact ⟨by decide +kernel, fun cs e => ⟨"pw", by kernel_rfl, by
      have e2 : formL ("read" : Str) = some [112, 119] := by decide +kernel
      rw [e2] at e; cases e; decide +kernel⟩⟩
  by_cases h7 : (w == ("need" : Str)) = true
  · rw [eq_of_beq h7]; exact ⟨by decide +kernel, fun cs e => ⟨"p", by kernel_rfl, by
      have e2 : formL ("need" : Str) = some [112] := by decide +kernel
      rw [e2] at e; cases e; decide +kernel⟩⟩
  by_cases h8 : (w == ("forget" : Str)) = true
  · rw [eq_of_beq h8]; exact ⟨by decide +kernel, fun cs e => ⟨"w", by kernel_rfl, by
      have e2 : formL ("forget" : Str) = some [119] := by decide +kernel
      rw [e2] at e; cases e; decide +kernel⟩⟩
  by_cases h9 : (w == ("stop" : Str)) = true
  · rw [eq_of_beq h9]; exact ⟨by decide +kernel, fun cs e => ⟨"", by kernel_rfl, by
      have e2 : formL ("stop" : Str) = some [] := by decide +kernel
      rw [e2] at e; cases e; decide +kernel⟩⟩
  have f : formL w = none := by
    unfold formL
    rw [if_neg h0, if_neg h1, if_neg h2, if_neg h3, if_neg h4, if_neg h5, if_neg h6, if_neg h7, if_neg h8, if_neg h9]
  have nf : ∀ {k : Str}, ¬ (w == k) = true → (w == k) = false := fun h => by simpa using h
  refine ⟨?_, fun cs e => by rw [f] at e; cases e⟩
  rw [f]
  unfold FO
  simp only [List.any_cons, List.any_nil, sw, nf h0, nf h1, nf h2, nf h3, nf h4, nf h5, nf h6, nf h7, nf h8, nf h9]
  rfl
end K05
end

section
/-! words, names, statements: what the defs hand out. -/
namespace K05
open PySem Vm
local macro_rules | `(tactic| walk_at "x1") => `(tactic| first
  | (with_reducible refine x_var ?_ ?_; exact rfl) | (with_reducible refine x_con ?_) | (with_reducible refine x_glo ?_ ?_; exact rfl) | (with_reducible refine x_bin ?_) | (with_reducible refine x_and ?_) | (with_reducible refine x_or ?_) | (with_reducible refine x_not ?_)
  | (with_reducible refine x_ite ?_) | (with_reducible refine x_cmp ?_) | (with_reducible refine x_chn ?_) | (with_reducible refine x_tup ?_) | (with_reducible refine x_lst ?_) | (with_reducible refine x_idx ?_) | (with_reducible refine x_slc ?_) | (with_reducible refine x_call ?_) | (with_reducible refine x_callk ?_)
  | (with_reducible refine x_bi ?_) | (with_reducible refine x_mth ?_) | (with_reducible refine x_isi ?_) | (with_reducible refine l_nil ?_) | (with_reducible refine l_cons ?_) | (with_reducible refine o_nil ?_) | (with_reducible refine o_some ?_) | (with_reducible refine t_nil ?_) | (with_reducible refine t_some ?_)
  | (with_reducible refine s_skip ?_) | (with_reducible refine s_seq ?_) | (with_reducible refine s_asg ?_) | (with_reducible refine s_asgT ?_) | (with_reducible refine s_ex ?_) | (with_reducible refine s_ret ?_) | (with_reducible refine s_ife ?_)
  | (with_reducible refine wpO_of ?_ ?_; exact rfl) | (with_reducible refine wpO_of (isi_p ?_) ?_; exact rfl))
local macro_rules | `(tactic| walk_at "xs") => `(tactic| repeat (walk_at "x1"; try dsimp only))
local macro_rules | `(tactic| walk_at "is") => `(tactic| (refine Is.of ?_; walk_at "xs"; exact ⟨rfl, rfl⟩))




theorem is_cutT {K : Kit} {env : Vm.Env} {st : Store} {w : PyData} {r : List PyData} (h1 : Is K (.var 0) env st (.p (.tuple (w :: r)))) : Is K (.slc (.var 0) (.cons (.con (.int 1)) .nil) .nil) env st (.p (.tuple r)) := Is.of (x_slc (h1.wp (o_some (x_con ⟨1, rfl, o_nil (wpO_of (a := .p (.tuple r)) (by
  show (slcD (some 1) none (.tuple (w :: r))).map Val.p = _
  unfold slcD cutL
  have e1 : HT.sIx (r.length + 1) 0 (some 1) = 1 := by
    unfold HT.sIx
    simp
  have e2 : HT.sIx (r.length + 1) (r.length + 1) none = r.length + 1 := rfl
  simp only [List.length_cons, e1, e2]
  simp) ⟨rfl, rfl⟩)⟩))))
theorem mkind_d {s : Store} {k : Nat} {kvs : List (PyData × PyData)} (h : s[k]? = some (.pd kvs)) : mkind s (.r k) = some .dict := by
  unfold mkind
  rw [see_rd h rfl]
theorem chars_len (z : Str) : (charsOf z).length = z.cps.toList.length := by simp [charsOf]
abbrev stF (st : Store) (ms : List PyData) : Store := st ++ [.pl ms, .pd FO]
theorem stF_0 (st : Store) (ms : List PyData) : (stF st ms)[st.length]? = some (.pl ms) := by simp [stF]
theorem stF_1 (st : Store) (ms : List PyData) : (stF st ms)[st.length + 1]? = some (.pd FO) := by
  unfold stF
  rw [List.getElem?_append_right (by omega)]
  simp
theorem stF_wf {st : Store} (w : WFs st) (ms : List PyData) : WFs (stF st ms) := w.app rfl
theorem stF_set (st : Store) (ms ms' : List PyData) : (stF st ms).set st.length (.pl ms') = stF st ms' := by
  unfold stF
  rw [List.set_append_right _ _ (Nat.le_refl _)]
  simp
theorem merge7 : mergeV (F7.map fun q => (q.1, Val.p q.2)) = F7.map fun q => (q.1, Val.p q.2) := by kernel_rfl
theorem merge3 : mergeV (F3.map fun q => (q.1, Val.p q.2)) = F3.map fun q => (q.1, Val.p q.2) := by kernel_rfl
theorem upd_all : F3.foldl (fun a q => putK a q.1 q.2) F7 = FO := by kernel_rfl
theorem unPs_snd (l : List (PyData × PyData)) : unPs ((l.map fun q => (q.1, Val.p q.2)).map (·.2)) = some (l.map (·.2)) := by
  rw [List.map_map]
  have : (l.map ((fun q : PyData × Val => q.2) ∘ fun q : PyData × PyData => (q.1, Val.p q.2))) = (l.map (·.2)).map Val.p := by simp
  rw [this, unPs_map]
theorem zip_snd (l : List (PyData × PyData)) : ((l.map fun q => (q.1, Val.p q.2)).map (·.1)).zip (l.map (·.2)) = l := by
  induction l with
  | nil => rfl
  | cons q l ih => simpa using ih
theorem inD_FO (w : Str) : inD (.str w) (.dict FO) = some (FO.any fun q => PyData.eqv q.1 (.str w)) := by
  show (if keyed (.str w) = true ∧ kindOK FO (.str w) = true then some (FO.any fun q => PyData.eqv q.1 (.str w)) else none) = _
  rw [if_pos ⟨rfl, rfl⟩]
theorem idx_FO {s : Store} {k : Nat} {w z : Str} (h : s[k]? = some (.pd FO)) (g : getK FO (.str w) = some (.str z)) : idxV s (.r k) (.p (.str w)) = some (.p (.str z)) := by
  unfold idxV
  rw [see_rd h rfl]
  show (if keyed (.str w) = true ∧ kindOK FO (.str w) = true then getK FO (.str w) else none).map Val.p = _
  rw [if_pos ⟨rfl, rfl⟩, g]
  rfl
theorem all_true (l : List Bool) : (!((l.map PyData.bool).any fun z => PyData.eqv z (.bool false))) = l.all id := by
  induction l with
  | nil => rfl
  | cons b l ih =>
    rw [List.map_cons, List.any_cons, List.all_cons, ← ih]
    cases b <;> simp [PyData.eqv]
theorem zip_vals (cs : List Nat) (r : List PyData) : ((((cs.map fun c => PyData.str ⟨#[c]⟩).map Val.p).zip (r.map Val.p)).map fun q => mkT [q.1, q.2]) = (cs.zip r).map fun q => Val.p (.tuple [.str ⟨#[q.1]⟩, q.2]) := by
  induction cs generalizing r with
  | nil => rfl
  | cons c cs ih =>
    cases r with
    | nil => rfl
    | cons d r =>
      simp only [List.map_cons, List.zip_cons_cons]
      rw [ih]
      rfl
theorem one_eq (c k : Nat) (z : Str) (hz : z = ⟨#[k]⟩) : ((⟨#[c]⟩ : Str) == z) = (c == k) := by
  subst hz
  rw [Bool.eq_iff_iff, beq_iff_eq, beq_iff_eq]
  constructor
  · intro h; cases h; rfl
  · intro h; rw [h]
theorem l_fits {n : Nat} {w : Str} {r : List PyData} {st : Store} (wf : WFs st) (h : ∀ d ∈ r, tame d = true) (hl : r.length ≤ 4095) : runF pg (n + 4) i__law_fits [.p (.tuple (.str w :: r))] st = .ok (.p (.bool (plainB w r))) st := by
  refine f_is rfl rfl rfl wf ?_
  show wpF (execS (kitOf pg (n + 3)) pg.fields b__law_fits [some (.p (.tuple (.str w :: r))), none, none, none, none] st) _
  unfold b__law_fits
  have sz := SZ4
  obtain ⟨g1, g2⟩ := get_form w
  refine s_seq (s_asg (x_lst (l_nil ⟨by decide, ?_⟩)))
  show wpF (execS (kitOf pg (n + 3)) pg.fields _ [some (.p (.tuple (.str w :: r))), some (.r st.length), none, none, none] (st ++ [.pl []])) _
  have q7 : ∀ {env : Vm.Env} {s : Store}, evalL (kitOf pg (n + 3)) (.cons (.con (.str "let")) (.cons (.con (.str "wi")) (.cons (.con (.str "\x69mport")) (.cons (.con (.str "n")) (.cons (.con (.str "as")) (.cons (.con (.str "rw")) (.cons (.con (.str "from")) (.cons (.con (.str "rww")) (.cons (.con (.str "star")) (.cons (.con (.str "r")) (.cons (.con (.str "public")) (.cons (.con (.str "m")) (.cons (.con (.str "read")) (.cons (.con (.str "pw")) .nil)))))))))))))) env s = .ok (F7.flatMap fun q => [.p q.1, .p q.2]) s := fun {env s} => by simp [evalL, evalX, F7]
  have q3 : ∀ {env : Vm.Env} {s : Store}, evalL (kitOf pg (n + 3)) (.cons (.con (.str "need")) (.cons (.con (.str "p")) (.cons (.con (.str "stop")) (.cons (.con (.str "")) (.cons (.con (.str "forget")) (.cons (.con (.str "w")) .nil)))))) env s = .ok (F3.flatMap fun q => [.p q.1, .p q.2]) s := fun {env s} => by simp [evalL, evalX, F3]
  refine s_seq (s_asg (x_dic (wp_eq q7 (wpO_of (a := F7.map fun q => (q.1, Val.p q.2)) rfl ⟨⟨by decide +kernel, by decide⟩, ?_⟩))))
  rw [merge7]
  unfold allocD
  simp only [unPs_snd, zip_snd]
  show wpF (execS (kitOf pg (n + 3)) pg.fields _ [some (.p (.tuple (.str w :: r))), some (.r st.length), some (.r (st ++ [Cell.pl []]).length), none, none] ((st ++ [.pl []]) ++ [.pd F7])) _
  have e1 : (st ++ [Cell.pl []]).length = st.length + 1 := by simp
  have e2 : ((st ++ [Cell.pl []]) ++ [Cell.pd F7]) = st ++ [.pl [], .pd F7] := by simp
  rw [e1, e2]
  refine s_seq (s_ex (x_mth (x_var rfl ⟨.dict, ?_, rfl, l_cons (x_dic (wp_eq q3 (wpO_of (a := F3.map fun q => (q.1, Val.p q.2)) rfl ⟨⟨by decide +kernel, by decide⟩, ?_⟩)))⟩)))
  · refine mkind_d (kvs := F7) ?_
    rw [List.getElem?_append_right (by omega)]
    simp
  rw [merge3]
  unfold allocD
  simp only [unPs_snd, zip_snd]
  refine wp_ok (l_nil ?_)
  have c1 : (st ++ [Cell.pl [], Cell.pd F7])[st.length + 1]? = some (.pd F7) := by
    rw [List.getElem?_append_right (by omega)]
    simp
  have c2 : mtC .update (.pd F7) [Val.p (.dict F3)] ([Val.p (.dict F3)].map (see (st ++ [Cell.pl [], Cell.pd F7]))) = some (.p .none, .pd FO) := by
    show (if F7.length + F3.length ≤ SZ ∧ (F7.any fun q => isKey1 q.1) = true ∧ (F3.any fun q => isKey1 q.1) = true then some (Val.p .none, Cell.pd (F3.foldl (fun a q => putK a q.1 q.2) F7)) else none) = _
    rw [if_pos (by decide +kernel), upd_all]
  have c3 : (st ++ [Cell.pl [], Cell.pd F7]).set (st.length + 1) (.pd FO) = stF st [] := by
    rw [List.set_append_right _ _ (by omega)]
    have : st.length + 1 - st.length = 1 := by omega
    rw [this]
    rfl
  refine wp_eq (mtV_r c1 c2) ?_
  rw [c3]
  have row : ∀ {env : Vm.Env} {s : Store}, env[0]? = some (some (.p (.tuple (.str w :: r)))) → Is (kitOf pg (n + 3)) (.idx (.var 0) (.con (.int 0))) env s (.p (.str w)) := fun e => is_tup 0 (is_var e) rfl
  cases hf : formL w with
  | none =>
    have pb : plainB w r = false := by rw [form_plain, hf]
    refine s_seq (if_is (t := true) (Is.of (x_or ((Is.of (x_cmp ((row rfl).wp (x_var rfl (wpO_of (a := true) ?_ ⟨rfl, rfl⟩))))).wp (wpO_of (a := true) rfl (wpB_t ⟨rfl, rfl⟩))))) (fun _ => ret_is is_con ⟨by simp, .inl (by rw [pb])⟩) fun z => by cases z)
    rw [see_rd (stF_1 st []) rfl]
    show (inD (.str w) (.dict FO)).map (!·) = _
    rw [inD_FO, g1, hf]
    rfl
  | some cs =>
    obtain ⟨z, hz, hzc⟩ := g2 cs hf
    have fz : ∀ {env : Vm.Env} {ms : List PyData}, env[0]? = some (some (.p (.tuple (.str w :: r)))) → env[2]? = some (some (.r (st.length + 1))) → Is (kitOf pg (n + 3)) (.idx (.var 2) (.idx (.var 0) (.con (.int 0)))) env (stF st ms) (.p (.str z)) := fun {env ms} e0 e2 => Is.of (x_idx (x_var e2 ((row e0).wp (wpO_of (a := .p (.str z)) (idx_FO (stF_1 st ms) hz) ⟨rfl, rfl⟩))))
    have zl : (z.length : Int) = cs.length := by rw [← hzc]; simp [Str.length]
    have pb : plainB w r = ((r.length == cs.length) && (cs.zip r).all fun q => okS q.1 q.2) := by rw [form_plain, hf]
    have csl : cs.length ≤ 3 := by
      unfold formL at hf
      repeat' split at hf
      all_goals first | (cases hf; decide) | cases hf
    refine s_seq (if_is (t := !(r.length == cs.length)) ?_ (fun e => ?_) fun e => s_skip ?_)
    · refine is_or (t1 := false) (t2 := !(r.length == cs.length)) (Is.of (x_cmp ((row rfl).wp (x_var rfl (wpO_of (a := false) ?_ ⟨rfl, rfl⟩))))) fun _ => ?_
      · rw [see_rd (stF_1 st []) rfl]
        show (inD (.str w) (.dict FO)).map (!·) = _
        rw [inD_FO, g1, hf]
        rfl
      · have := len_str (fz (ms := []) (env := [some (.p (.tuple (.str w :: r))), some (.r st.length), some (.r (st.length + 1)), none, none]) rfl rfl) (by rw [show z.length = cs.length by omega]; omega)
        refine is_cmpI (i := ((PyData.str w :: r).length : Int)) (j := 1 + (z.length : Int)) (len_tup (is_var rfl)) (is_add is_con this) ?_
        show (eqD (.int _) (.int _)).map (!·) = _
        have : eqD (.int ((PyData.str w :: r).length : Int)) (.int (1 + (z.length : Int))) = some (r.length == cs.length) := by
          simp only [eqD, flat2, PyData.eqv, if_true]
          congr 1
          rw [Bool.eq_iff_iff, beq_iff_eq, beq_iff_eq, zl]
          simp only [List.length_cons]
          omega
        rw [this]
        rfl
    · have : plainB w r = false := by
        rw [pb]
        simp only [Bool.not_eq_true'] at e
        rw [e]; rfl
      rw [this]
      exact ret_is is_con ⟨by simp, .inl rfl⟩
    · have pb2 : plainB w r = (cs.zip r).all fun q => okS q.1 q.2 := by
        rw [pb]
        simp only [Bool.not_eq_false'] at e
        rw [e]; rfl
      refine s_seq (s_for (fun rest e s => ∃ done todo, cs.zip r = done ++ todo ∧ rest = todo.map (fun q => Val.p (.tuple [.str ⟨#[q.1]⟩, q.2])) ∧ s = stF st (done.map fun q => .bool (okS q.1 q.2)) ∧ ∃ a b, e = [some (.p (.tuple (.str w :: r))), some (.r st.length), some (.r (st.length + 1)), a, b]) ?_ ?_ ?_)
      · refine i_zip ((fz rfl rfl).wp ((is_cutT (is_var rfl)).wp (frz_p (frz_p (wpO_of (a := (cs.zip r).map fun q => Val.p (.tuple [.str ⟨#[q.1]⟩, q.2])) ?_ ⟨[], cs.zip r, rfl, rfl, rfl, none, none, rfl⟩)))))
        show some _ = some _
        congr 1
        unfold charsOf
        rw [hzc]
        exact zip_vals cs r
      · rintro v vs e s ⟨done, todo, hc, hv, rfl, a, b, rfl⟩
        cases todo with
        | nil => cases hv
        | cons q todo =>
          cases hv
          have hq : q ∈ cs.zip r := by rw [hc]; simp
          have hq2 := h q.2 (List.of_mem_zip hq).2
          have wf' := stF_wf wf (done.map fun q => PyData.bool (okS q.1 q.2))
          have dl : (done.map fun q => PyData.bool (okS q.1 q.2)).length < SZ := by
            have := congrArg List.length hc
            simp only [List.length_zip, List.length_append, List.length_cons] at this
            rw [List.length_map]
            omega
          refine wpO_of rfl ?_
          show wpF (execS (kitOf pg (n + 3)) pg.fields _ [some (.p (.tuple (.str w :: r))), some (.r st.length), some (.r (st.length + 1)), some (.p (.str ⟨#[q.1]⟩)), some (.p q.2)] (stF st (done.map fun q => PyData.bool (okS q.1 q.2)))) _
          have fin : ∀ {x : Ex}, Is (kitOf pg (n + 3)) x [some (.p (.tuple (.str w :: r))), some (.r st.length), some (.r (st.length + 1)), some (.p (.str ⟨#[q.1]⟩)), some (.p q.2)] (stF st (done.map fun q => PyData.bool (okS q.1 q.2))) (.p (.bool (okS q.1 q.2))) → ∀ {D : FK}, (D.nx = fun e s => ∃ done todo', cs.zip r = done ++ todo' ∧ todo.map (fun q => Val.p (.tuple [.str ⟨#[q.1]⟩, q.2])) = todo'.map (fun q => Val.p (.tuple [.str ⟨#[q.1]⟩, q.2])) ∧ s = stF st (done.map fun q => .bool (okS q.1 q.2)) ∧ ∃ a b, e = [some (.p (.tuple (.str w :: r))), some (.r st.length), some (.r (st.length + 1)), a, b]) →
              wpF (execS (kitOf pg (n + 3)) pg.fields (.ex (.mth .append (.var 1) (.cons x .nil))) [some (.p (.tuple (.str w :: r))), some (.r st.length), some (.r (st.length + 1)), some (.p (.str ⟨#[q.1]⟩)), some (.p q.2)] (stF st (done.map fun q => PyData.bool (okS q.1 q.2)))) D := fun {x} hx {D} hD => by
            refine s_ex (x_append rfl (stF_0 st _) hx dl ?_)
            rw [hD, stF_set]
            exact ⟨done ++ [q], todo, by rw [hc]; simp, rfl, by rw [List.map_append]; rfl, _, _, rfl⟩
          refine if_is (t := q.1 == 119) (by rw [← one_eq q.1 119 "w" (by decide +kernel)]; exact is_eqS (is_var rfl) is_con) (fun e => fin ?_ rfl) fun ew => ?_
          · have : okS q.1 q.2 = wordD q.2 := by unfold okS; rw [if_pos e]
            rw [this]
            exact is_1 (is_var rfl) (l_is_word wf' fun s e => by have := tame_s hq2 s e; omega)
          refine if_is (t := q.1 == 105) (by rw [← one_eq q.1 105 "i" (by decide +kernel)]; exact is_eqS (is_var rfl) is_con) (fun e => fin ?_ rfl) fun ei => ?_
          · have : okS q.1 q.2 = ([Ty.int].any (tyb q.2) && (!([Ty.bool].any (tyb q.2)) && decide (absI q.2 < 1000000000000000000000000000000))) := by
              unfold okS
              rw [if_neg (by rw [ew]; decide), if_pos e]
              cases q.2 <;> rfl
            rw [this]
            refine is_and (is_isi (is_var rfl) rfl) fun t1 => is_and (is_not (is_isi (is_var rfl) rfl)) fun t2 => ?_
            have hi : ∃ i, q.2 = .int i := by
              revert t1 t2
              cases q.2 with
              | int i => exact fun _ _ => ⟨i, rfl⟩
              | bool b => exact fun _ t => absurd (show (false : Bool) = true from t) (by decide)
              | _ => exact fun t _ => absurd (show (false : Bool) = true from t) (by decide)
            obtain ⟨i, hi⟩ := hi
            rw [hi]
            exact is_cmpI (i := if i < 0 then -i else i) (Is.of (x_bi (l_cons (x_var rfl (l_nil (wpO_of (a := .p (.int (if i < 0 then -i else i))) rfl ⟨rfl, rfl⟩)))))) is_pow rfl
          refine if_is (t := q.1 == 110) (by rw [← one_eq q.1 110 "n" (by decide +kernel)]; exact is_eqS (is_var rfl) is_con) (fun e => fin ?_ rfl) fun en => ?_
          · have : okS q.1 q.2 = nameD q.2 := by unfold okS; rw [if_neg (by rw [ew]; decide), if_neg (by rw [ei]; decide), if_pos e]
            rw [this]
            exact is_1 (is_var rfl) (l_is_name (n := n + 1) wf' (tame_s hq2))
          refine if_is (t := q.1 == 114) (by rw [← one_eq q.1 114 "r" (by decide +kernel)]; exact is_eqS (is_var rfl) is_con) (fun e => fin ?_ rfl) fun er => fin ?_ rfl
          · have : okS q.1 q.2 = refD q.2 := by unfold okS; rw [if_neg (by rw [ew]; decide), if_neg (by rw [ei]; decide), if_neg (by rw [en]; decide), if_pos e]
            rw [this]
            exact is_1 (is_var rfl) (l_is_reference wf' hq2)
          · have : okS q.1 q.2 = wordsD q.2 (if q.1 == 112 then 6 else 40) := by unfold okS; rw [if_neg (by rw [ew]; decide), if_neg (by rw [ei]; decide), if_neg (by rw [en]; decide), if_neg (by rw [er]; decide)]
            rw [this]
            refine is_2 (is_var rfl) ?_ (l_are_words (n := n + 1) wf' hq2)
            have hp := is_eqS (K := kitOf pg (n + 3)) (env := [some (.p (.tuple (.str w :: r))), some (.r st.length), some (.r (st.length + 1)), some (.p (.str ⟨#[q.1]⟩)), some (.p q.2)]) (st := stF st (done.map fun q => PyData.bool (okS q.1 q.2))) (x := ⟨#[q.1]⟩) (y := "p") (is_var (i := 3) rfl) is_con
            rw [one_eq q.1 112 "p" (by decide +kernel)] at hp
            refine Is.of (x_idx ((is_lst (ds := [.int 40, .int 6]) (by simp [evalL, evalX]) (by decide)).wp (x_bi (l_cons (hp.wp (l_nil (wpO_of (a := .p (.int (if q.1 == 112 then 1 else 0))) ?_ (wpO_of (a := .p (.int (if q.1 == 112 then 6 else 40))) ?_ ⟨rfl, rfl⟩))))))))
            · rfl
            · cases (q.1 == 112) <;> rfl
      · rintro e s ⟨done, todo, hc, hv, rfl, a, b, rfl⟩
        have : todo = [] := by simpa using hv.symm
        subst this
        rw [List.append_nil] at hc
        refine s_ret (x_cmp (x_con (x_var rfl (wpO_of (a := plainB w r) ?_ ⟨by simp [stF], .inl rfl⟩))))
        rw [see_rd (stF_0 st _) rfl]
        show (inD (.bool false) (.list (done.map fun q => .bool (okS q.1 q.2)))).map (!·) = _
        have e3 : (done.map fun q => PyData.bool (okS q.1 q.2)) = (done.map fun q => okS q.1 q.2).map PyData.bool := by simp
        rw [e3]
        have e4 : inD (.bool false) (.list ((done.map fun q => okS q.1 q.2).map PyData.bool)) = some (((done.map fun q => okS q.1 q.2).map PyData.bool).any fun z => PyData.eqv z (.bool false)) := by
          unfold inD
          simp only
          rw [if_pos (.inl ⟨rfl, by simp [flatD]⟩)]
        rw [e4]
        show some (!_) = _
        rw [all_true, pb2, hc, List.all_map]
        rfl
end K05
end

section
/-! words, names, statements: what the defs hand out. -/
namespace K05
open PySem Vm
local macro_rules | `(tactic| walk_at "x1") => `(tactic| first
  | (with_reducible refine x_var ?_ ?_; exact rfl) | (with_reducible refine x_con ?_) | (with_reducible refine x_glo ?_ ?_; exact rfl) | (with_reducible refine x_bin ?_) | (with_reducible refine x_and ?_) | (with_reducible refine x_or ?_) | (with_reducible refine x_not ?_)
  | (with_reducible refine x_ite ?_) | (with_reducible refine x_cmp ?_) | (with_reducible refine x_chn ?_) | (with_reducible refine x_tup ?_) | (with_reducible refine x_lst ?_) | (with_reducible refine x_idx ?_) | (with_reducible refine x_slc ?_) | (with_reducible refine x_call ?_) | (with_reducible refine x_callk ?_)
  | (with_reducible refine x_bi ?_) | (with_reducible refine x_mth ?_) | (with_reducible refine x_isi ?_) | (with_reducible refine l_nil ?_) | (with_reducible refine l_cons ?_) | (with_reducible refine o_nil ?_) | (with_reducible refine o_some ?_) | (with_reducible refine t_nil ?_) | (with_reducible refine t_some ?_)
  | (with_reducible refine s_skip ?_) | (with_reducible refine s_seq ?_) | (with_reducible refine s_asg ?_) | (with_reducible refine s_asgT ?_) | (with_reducible refine s_ex ?_) | (with_reducible refine s_ret ?_) | (with_reducible refine s_ife ?_)
  | (with_reducible refine wpO_of ?_ ?_; exact rfl) | (with_reducible refine wpO_of (isi_p ?_) ?_; exact rfl))
local macro_rules | `(tactic| walk_at "xs") => `(tactic| repeat (walk_at "x1"; try dsimp only))
local macro_rules | `(tactic| walk_at "is") => `(tactic| (refine Is.of ?_; walk_at "xs"; exact ⟨rfl, rfl⟩))




/-! ### how many statements -/
def addO : Option Nat → Option Nat → Option Nat
  | some x, some y => some (x + y)
  | _, _ => none
mutual
def cnt : PyData → Option Nat
  | .tuple ds => cntL ds
  | _ => none
def cntL : List PyData → Option Nat
  | [] => some 0
  | d :: ds => addO (stm d) (cntL ds)
def stm : PyData → Option Nat
  | .tuple [.str w, a, b] => if w == ("try" : Str) then addO (some 1) (addO (cnt a) (cnt b)) else if plainB w [a, b] then some 1 else none
  | .tuple (.str w :: r) => if plainB w r then some 1 else none
  | _ => none
end
mutual
def dp : PyData → Nat
  | .tuple ds => dpL ds + 1
  | .list ds => dpL ds + 1
  | _ => 0
def dpL : List PyData → Nat
  | [] => 0
  | d :: ds => max (dp d) (dpL ds)
end
theorem dp_mem : ∀ {ds : List PyData} {d : PyData}, d ∈ ds → dp d ≤ dpL ds
  | e :: ds, d, h => by
    rw [dpL]
    rcases List.mem_cons.mp h with rfl | h
    · exact Nat.le_max_left _ _
    · exact Nat.le_trans (dp_mem h) (Nat.le_max_right _ _)
theorem addO_assoc (a b c : Option Nat) : addO (addO a b) c = addO a (addO b c) := by
  cases a <;> cases b <;> cases c <;> simp [addO, Nat.add_assoc]
theorem addO_none (a : Option Nat) : addO a none = none := by cases a <;> rfl
theorem none_addO (a : Option Nat) : addO none a = none := by cases a <;> rfl
theorem zero_addO (a : Option Nat) : addO (some 0) a = a := by cases a <;> simp [addO]
theorem cntL_app : ∀ xs ys : List PyData, cntL (xs ++ ys) = addO (cntL xs) (cntL ys)
  | [], ys => by rw [List.nil_append, cntL, zero_addO]
  | x :: xs, ys => by rw [List.cons_append, cntL, cntL, cntL_app xs ys, addO_assoc]
/-- v says as much as o, to 40 -/
def RelN (o : Option Nat) (v : Int) : Prop := 0 ≤ v ∧ ∀ k : Nat, k ≤ 40 → (v = (k : Int) ↔ o = some k)
theorem RelN.zero : RelN (some 0) 0 := ⟨by omega, fun k _ => ⟨fun h => by congr 1; omega, fun h => by cases h; rfl⟩⟩
theorem RelN.one : RelN (some 1) 1 := ⟨by omega, fun k _ => ⟨fun h => by congr 1; omega, fun h => by cases h; rfl⟩⟩
theorem RelN.none {v : Int} (h : 40 < v) : RelN none v := ⟨by omega, fun k _ => ⟨fun h => by omega, fun h => by cases h⟩⟩
theorem RelN.add {a b : Option Nat} {v u : Int} (h1 : RelN a v) (h2 : RelN b u) : RelN (addO a b) (v + u) := by
  refine ⟨by have := h1.1; have := h2.1; omega, fun k hk => ⟨fun h => ?_, fun h => ?_⟩⟩
  · have a1 := h1.1
    have a2 := h2.1
    have e1 := (h1.2 v.toNat (by omega)).mp (by omega)
    have e2 := (h2.2 u.toNat (by omega)).mp (by omega)
    rw [e1, e2]
    show some _ = some _
    congr 1
    omega
  · cases a with
    | none => rw [none_addO] at h; cases h
    | some x =>
      cases b with
      | none => rw [addO_none] at h; cases h
      | some y =>
        have h : some (x + y) = some k := h
        have h : x + y = k := Option.some.inj h
        have e1 := (h1.2 x (by omega)).mpr rfl
        have e2 := (h2.2 y (by omega)).mpr rfl
        omega
theorem RelN.over {a b : Option Nat} {v w : Int} (h1 : RelN a v) (hv : 40 < v) (hw : 40 < w) : RelN (addO a b) w := by
  refine ⟨by omega, fun k hk => ⟨fun h => by omega, fun h => ?_⟩⟩
  cases a with
  | none => rw [none_addO] at h; cases h
  | some x =>
    cases b with
    | none => rw [addO_none] at h; cases h
    | some y =>
      have h : some (x + y) = some k := h
      have h : x + y = k := Option.some.inj h
      have e1 := (h1.2 x (by omega)).mpr rfl
      omega
theorem RelN.min {a : Option Nat} {v w : Int} (h1 : RelN a v) (hw : 40 < w) : RelN a (if w < v then w else v) := by
  split
  · refine ⟨by omega, fun k hk => ⟨fun h => by omega, fun h => ?_⟩⟩
    have := (h1.2 k hk).mpr h
    omega
  · exact h1
theorem RelN.le {a : Option Nat} {v w : Int} (h1 : RelN a v) (h2 : RelN a w) : decide (v ≤ 40) = decide (w ≤ 40) := by
  apply decide_eq_decide.mpr
  have a1 := h1.1
  have a2 := h2.1
  constructor
  · intro h
    have e1 := (h1.2 v.toNat (by omega)).mp (by omega)
    have e2 := (h2.2 v.toNat (by omega)).mpr e1
    omega
  · intro h
    have e1 := (h2.2 w.toNat (by omega)).mp (by omega)
    have e2 := (h1.2 w.toNat (by omega)).mpr e1
    omega
/-- the statement's looks -/
inductive StK : PyData → Prop
  | bad {d : PyData} (h : ∀ ds, d ≠ .tuple ds) : StK d
  | emp : StK (.tuple [])
  | odd {d : PyData} {r : List PyData} (h : ∀ s, d ≠ .str s) : StK (.tuple (d :: r))
  | ok (w : Str) (r : List PyData) : StK (.tuple (.str w :: r))
theorem stk : ∀ d : PyData, StK d
  | .tuple [] => .emp
  | .tuple (.str w :: r) => .ok w r
  | .tuple (.none :: r) => .odd fun _ e => by cases e
  | .tuple (.bool _ :: r) => .odd fun _ e => by cases e
  | .tuple (.int _ :: r) => .odd fun _ e => by cases e
  | .tuple (.list _ :: r) => .odd fun _ e => by cases e
  | .tuple (.tuple _ :: r) => .odd fun _ e => by cases e
  | .tuple (.dict _ :: r) => .odd fun _ e => by cases e
  | .none => .bad fun _ e => by cases e
  | .bool _ => .bad fun _ e => by cases e
  | .int _ => .bad fun _ e => by cases e
  | .str _ => .bad fun _ e => by cases e
  | .list _ => .bad fun _ e => by cases e
  | .dict _ => .bad fun _ e => by cases e
theorem tyb_str {d : PyData} (h : ∀ s, d ≠ .str s) : [Ty.str].any (tyb d) = false := by
  cases d with
  | str s => exact absurd rfl (h s)
  | _ => rfl
theorem tyb_tup {d : PyData} (h : ∀ s, d ≠ .tuple s) : [Ty.tuple].any (tyb d) = false := by
  cases d with
  | tuple s => exact absurd rfl (h s)
  | _ => rfl
theorem stm_bad {d : PyData} (h : ∀ ds, d ≠ .tuple ds) : stm d = none := by
  cases d with
  | tuple s => exact absurd rfl (h s)
  | _ => rw [stm] <;> (intros; contradiction)
theorem cnt_bad {d : PyData} (h : ∀ ds, d ≠ .tuple ds) : cnt d = none := by
  cases d with
  | tuple s => exact absurd rfl (h s)
  | _ => rw [cnt] <;> (intros; contradiction)
theorem stm_emp : stm (.tuple []) = none := by
  rw [stm]
  · intro w a b e; simp at e
  · intro w r e; simp at e
theorem stm_odd {d : PyData} {r : List PyData} (h : ∀ s, d ≠ .str s) : stm (.tuple (d :: r)) = none := by
  rw [stm]
  · intro w a b e
    cases e
    exact h w rfl
  · intro w r e
    cases e
    exact h w rfl
theorem stm_try (a b : PyData) : stm (.tuple [.str "try", a, b]) = addO (some 1) (addO (cnt a) (cnt b)) := by
  rw [stm, if_pos (by decide +kernel)]
theorem stm_ok {w : Str} {r : List PyData} (h : (w == ("try" : Str) && (r.length : Int) + 1 == 3) = false) : stm (.tuple (.str w :: r)) = if plainB w r then some 1 else none := by
  match r, h with
  | [a, b], h =>
    rw [stm]
    have : (w == ("try" : Str)) = false := by simpa using h
    rw [if_neg (by rw [this]; decide)]
  | [], _ => rw [stm]; intro x y z; simp at z
  | [a], _ => rw [stm]; intro x y z; simp at z
  | a :: b :: c :: t, _ => rw [stm]; intro x y z; simp at z
end K05
end

section
/-! words, names, statements: what the defs hand out. -/
namespace K05
open PySem Vm
local macro_rules | `(tactic| walk_at "x1") => `(tactic| first
  | (with_reducible refine x_var ?_ ?_; exact rfl) | (with_reducible refine x_con ?_) | (with_reducible refine x_glo ?_ ?_; exact rfl) | (with_reducible refine x_bin ?_) | (with_reducible refine x_and ?_) | (with_reducible refine x_or ?_) | (with_reducible refine x_not ?_)
  | (with_reducible refine x_ite ?_) | (with_reducible refine x_cmp ?_) | (with_reducible refine x_chn ?_) | (with_reducible refine x_tup ?_) | (with_reducible refine x_lst ?_) | (with_reducible refine x_idx ?_) | (with_reducible refine x_slc ?_) | (with_reducible refine x_call ?_) | (with_reducible refine x_callk ?_)
  | (with_reducible refine x_bi ?_) | (with_reducible refine x_mth ?_) | (with_reducible refine x_isi ?_) | (with_reducible refine l_nil ?_) | (with_reducible refine l_cons ?_) | (with_reducible refine o_nil ?_) | (with_reducible refine o_some ?_) | (with_reducible refine t_nil ?_) | (with_reducible refine t_some ?_)
  | (with_reducible refine s_skip ?_) | (with_reducible refine s_seq ?_) | (with_reducible refine s_asg ?_) | (with_reducible refine s_asgT ?_) | (with_reducible refine s_ex ?_) | (with_reducible refine s_ret ?_) | (with_reducible refine s_ife ?_)
  | (with_reducible refine wpO_of ?_ ?_; exact rfl) | (with_reducible refine wpO_of (isi_p ?_) ?_; exact rfl))
local macro_rules | `(tactic| walk_at "xs") => `(tactic| repeat (walk_at "x1"; try dsimp only))
local macro_rules | `(tactic| walk_at "is") => `(tactic| (refine Is.of ?_; walk_at "xs"; exact ⟨rfl, rfl⟩))





theorem tail_len {w : PyData} {r : List PyData} : (((w :: r).length : Nat) : Int) = (r.length : Int) + 1 := by simp
theorem r_statements_in : ∀ (m : Nat) (d : PyData), tame d = true → dp d ≤ m → ∀ (n : Nat), 6 + m ≤ n → ∀ (st : Store), WFs st → ∃ v : Int, RelN (cnt d) v ∧ runF pg n i_statements_in [.p d, .p (.int 40)] st = .ok (.p (.int v)) st := by
  intro m
  induction m with
  | zero =>
    intro d ht hd n hn st wf
    obtain ⟨n, rfl⟩ : ∃ k, n = k + 1 := ⟨n - 1, by omega⟩
    refine ⟨41, ?_, f_is rfl rfl rfl wf ?_⟩
    · rw [cnt_bad fun ds e => by subst e; rw [dp] at hd; omega]
      exact .none (by decide)
    · show wpF (execS (kitOf pg n) pg.fields b_statements_in [some (.p d), some (.p (.int 40)), none, none] st) _
      unfold b_statements_in
      have hz : [Ty.tuple].any (tyb d) = false := tyb_tup fun ds e => by subst e; rw [dp] at hd; omega
      refine s_seq (if_is (t := true) (is_nisi (t := false) (is_var rfl) rfl hz) (fun _ => ret_is (is_add (i := 40) (j := 1) (is_var rfl) is_con) ⟨by simp, .inl rfl⟩) fun z => by cases z)
  | succ m ih =>
    intro d ht hd n hn st wf
    obtain ⟨n, rfl⟩ : ∃ k, n = k + 1 := ⟨n - 1, by omega⟩
    by_cases hdt : ∀ ds, d ≠ .tuple ds
    · refine ⟨41, ?_, f_is rfl rfl rfl wf ?_⟩
      · rw [cnt_bad hdt]
        exact .none (by decide)
      · show wpF (execS (kitOf pg n) pg.fields b_statements_in [some (.p d), some (.p (.int 40)), none, none] st) _
        unfold b_statements_in
        refine s_seq (if_is (t := true) (is_nisi (t := false) (is_var rfl) rfl (tyb_tup hdt)) (fun _ => ret_is (is_add (i := 40) (j := 1) (is_var rfl) is_con) ⟨by simp, .inl rfl⟩) fun z => by cases z)
    · obtain ⟨ds, rfl⟩ : ∃ ds, d = .tuple ds := by
        refine Classical.byContradiction fun h => hdt fun ds e => h ⟨ds, e⟩
      obtain ⟨hl, he⟩ := tame_tup ht
      rw [dp] at hd
      have key : wpR (runF pg (n + 1) i_statements_in [.p (.tuple ds), .p (.int 40)] st) (fun w s => s = st ∧ ∃ v : Int, RelN (cnt (.tuple ds)) v ∧ w = .p (.int v)) (fun _ _ _ => False) := by
        refine f_pure rfl rfl rfl wf ?_
        show wpF (execS (kitOf pg n) pg.fields b_statements_in [some (.p (.tuple ds)), some (.p (.int 40)), none, none] st) _
        unfold b_statements_in
        refine s_seq (if_is (t := false) (by walk_at "is") (fun z => by cases z) fun _ => s_skip (s_seq (asg_is is_con ?_)))
        show wpF (execS (kitOf pg n) pg.fields _ [some (.p (.tuple ds)), some (.p (.int 40)), some (.p (.int 0)), none] st) _
        refine s_seq (s_for (fun rest e s => s = st ∧ ∃ done todo, ds = done ++ todo ∧ rest = todo.map Val.p ∧ ∃ (f : Int) (a : Option Val), e = [some (.p (.tuple ds)), some (.p (.int 40)), some (.p (.int f)), a] ∧ RelN (cntL done) f) ((i_tup (is_var rfl)).any fun items s h => ⟨h.2, [], ds, rfl, h.1, 0, none, rfl, by rw [cntL]; exact .zero⟩) ?_ ?_)
        · rintro v vs e s ⟨rfl, done, todo, hds, hv, f, a, rfl, hf⟩
          cases todo with
          | nil => cases hv
          | cons x todo =>
            cases hv
            have hx : x ∈ ds := by rw [hds]; simp
            have tx := he x hx
            have dx := dp_mem hx
            refine wpO_of rfl ?_
            show wpF (execS (kitOf pg n) pg.fields _ [some (.p (.tuple ds)), some (.p (.int 40)), some (.p (.int f)), some (.p x)] s) _
            have over : ∀ {b : Option Nat}, cnt (.tuple ds) = addO (cntL done) b → 40 < f → RelN (cnt (.tuple ds)) 41 := fun {b} e h => by rw [e]; exact hf.over h (by decide)
            have cd : cnt (.tuple ds) = addO (cntL done) (addO (stm x) (cntL todo)) := by rw [cnt, hds, cntL_app, cntL]
            have nn : stm x = none → RelN (cnt (.tuple ds)) 41 := fun e => by rw [cd, e, none_addO, addO_none]; exact .none (by decide)
            have isf : Is (kitOf pg n) (.cmp .gt (.var 2) (.var 1)) [some (.p (.tuple ds)), some (.p (.int 40)), some (.p (.int f)), some (.p x)] s (.p (.bool (decide (40 < f)))) := is_cmpI (is_var rfl) (is_var rfl) rfl
            have out : ∀ {D : FK}, D.rt = (fun v s' => s'.take s.length = s ∧ ∃ d, (v = .p d ∨ ∃ k, v = .r k ∧ s.length ≤ k ∧ see s' v = .p d) ∧ s = s ∧ ∃ v : Int, RelN (cnt (.tuple ds)) v ∧ Val.p d = .p (.int v)) → RelN (cnt (.tuple ds)) 41 → wpF (execS (kitOf pg n) pg.fields (.ret (.bin .add (.var 1) (.con (.int 1)))) [some (.p (.tuple ds)), some (.p (.int 40)), some (.p (.int f)), some (.p x)] s) D := fun {D} hD hR => ret_is (is_add (i := 40) (j := 1) (is_var rfl) is_con) (by rw [hD]; exact ⟨by simp, _, .inl rfl, rfl, 41, hR, rfl⟩)
            have yes : ∀ {c : Ex} {t : Bool}, Is (kitOf pg n) c [some (.p (.tuple ds)), some (.p (.int 40)), some (.p (.int f)), some (.p x)] s (.p (.bool t)) → (t = true → RelN (cnt (.tuple ds)) 41) → ∀ {m' : Sm} {D : FK}, D.rt = (fun v s' => s'.take s.length = s ∧ ∃ d, (v = .p d ∨ ∃ k, v = .r k ∧ s.length ≤ k ∧ see s' v = .p d) ∧ s = s ∧ ∃ v : Int, RelN (cnt (.tuple ds)) v ∧ Val.p d = .p (.int v)) → (t = false → wpF (execS (kitOf pg n) pg.fields m' [some (.p (.tuple ds)), some (.p (.int 40)), some (.p (.int f)), some (.p x)] s) D) →
                wpF (execS (kitOf pg n) pg.fields (.seq (.ife (.cons c .nil) (.ret (.bin .add (.var 1) (.con (.int 1)))) .skip) m') [some (.p (.tuple ds)), some (.p (.int 40)), some (.p (.int f)), some (.p x)] s) D := fun {c t} hc hR {m' D} hD hm => s_seq (if_is hc (fun e => out hD (hR e)) fun e => s_skip (hm e))
            cases stk x with
            | bad hb =>
              refine yes (t := decide (40 < f) || true) (is_or isf fun _ => is_or (t1 := true) (t2 := true) (is_nisi (t := false) (is_var rfl) rfl (tyb_tup hb)) fun z => by cases z) (fun _ => nn (stm_bad hb)) rfl fun e => by simp at e
            | emp =>
              refine yes (t := decide (40 < f) || true) (is_or isf fun _ => is_or (t1 := false) (t2 := true) (by walk_at "is") fun _ => is_or (t1 := true) (t2 := true) (is_eqEmp (is_var rfl) rfl) fun z => by cases z) (fun _ => nn stm_emp) rfl fun e => by simp at e
            | @odd y r hb =>
              refine yes (t := decide (40 < f) || true) (is_or isf fun _ => is_or (t1 := false) (t2 := true) (by walk_at "is") fun _ => is_or (t1 := false) (t2 := true) (is_eqEmp (is_var rfl) rfl) fun _ => is_nisi (t := false) (is_tup 0 (is_var rfl) rfl) rfl (tyb_str hb)) (fun _ => nn (stm_odd hb)) rfl fun e => by simp at e
            | ok w r =>
              obtain ⟨hrl, hre⟩ := tame_tup tx
              have row : Is (kitOf pg n) (.idx (.var 3) (.con (.int 0))) [some (.p (.tuple ds)), some (.p (.int 40)), some (.p (.int f)), some (.p (.tuple (.str w :: r)))] s (.p (.str w)) := is_tup 0 (is_var rfl) rfl
              refine yes (t := decide (40 < f) || false) (is_or isf fun _ => is_or (t1 := false) (t2 := false) (by walk_at "is") fun _ => is_or (t1 := false) (t2 := false) (is_eqEmp (is_var rfl) rfl) fun _ => is_not (is_isi row rfl)) (fun e => over cd (by simpa using e)) rfl fun ef => ?_
              have step : ∀ {c : Int}, RelN (stm (.tuple (.str w :: r))) c → RelN (cntL (done ++ [.tuple (.str w :: r)])) (f + c) := fun h => by
                rw [cntL_app, cntL, cntL]
                have : addO (stm (.tuple (.str w :: r))) (some 0) = stm (.tuple (.str w :: r)) := by cases stm (.tuple (.str w :: r)) <;> rfl
                rw [this]
                exact hf.add h
              refine if_is (t := w == ("try" : Str) && (r.length : Int) + 1 == 3) (is_and (is_eqS row is_con) fun _ => is_eqI (by rw [← tail_len (w := .str w)]; exact len_tup (is_var rfl)) is_con) (fun et => ?_) fun et => ?_
              · rw [Bool.and_eq_true] at et
                have ew := eq_of_beq et.1
                have e3 : (r.length : Int) + 1 = 3 := by simpa using et.2
                obtain ⟨a1, a2, rfl⟩ := len2 (r := r) (by simp; omega)
                subst ew
                have d1 := dp_mem (show a1 ∈ [PyData.str "try", a1, a2] by simp)
                have d2 := dp_mem (show a2 ∈ [PyData.str "try", a1, a2] by simp)
                rw [dp] at dx
                obtain ⟨v1, r1, q1⟩ := ih a1 (hre _ (by simp)) (by omega) n (by omega) s wf
                obtain ⟨v2, r2, q2⟩ := ih a2 (hre _ (by simp)) (by omega) n (by omega) s wf
                refine asg_is (is_add (is_add (is_add (is_var rfl) is_con) (is_2 (is_tup 1 (is_var rfl) rfl) (is_var rfl) q1)) (is_2 (is_tup 2 (is_var rfl) rfl) (is_var rfl) q2)) ⟨rfl, done ++ [.tuple [.str "try", a1, a2]], todo, by rw [hds]; simp, rfl, f + 1 + v1 + v2, _, rfl, ?_⟩
                have := step (c := 1 + (v1 + v2)) (by rw [stm_try]; exact RelN.one.add (r1.add r2))
                have e4 : f + 1 + v1 + v2 = f + (1 + (v1 + v2)) := by omega
                rw [e4]
                exact this
              · have st0 := stm_ok et
                obtain ⟨n', rfl⟩ : ∃ k, n = k + 5 := ⟨n - 5, by omega⟩
                have hr := r_is_plain (n := n') (w := w) (r := r) (st := s) wf (fun d hd => hre d (List.mem_cons_of_mem _ hd)) (by simp only [List.length_cons] at hrl; omega)
                refine if_is (t := plainB w r) (is_1 (is_var rfl) hr) (fun ep => ?_) fun ep => ?_
                · refine asg_is (is_add (is_var rfl) is_con) ⟨rfl, done ++ [.tuple (.str w :: r)], todo, by rw [hds]; simp, rfl, f + 1, _, rfl, step (by rw [st0, if_pos ep]; exact .one)⟩
                · exact out rfl (nn (by rw [st0, if_neg (by rw [ep]; decide)]))
        · rintro e s ⟨rfl, done, todo, hds, hv, f, a, rfl, hf⟩
          have : todo = [] := by simpa using hv.symm
          subst this
          rw [List.append_nil] at hds
          subst hds
          dsimp only
          exact ret_is (is_var rfl) ⟨by simp, _, .inl rfl, rfl, f, by rw [cnt]; exact hf, rfl⟩
      revert key
      cases runF pg (n + 1) i_statements_in [.p (.tuple ds), .p (.int 40)] st with
      | ok w s =>
        rintro ⟨rfl, v, hv, rfl⟩
        exact ⟨v, hv, rfl⟩
      | er c fs s => exact fun h => h.elim
      | no => exact fun h => h.elim
theorem l_size : ∀ (m : Nat) (d : PyData), tame d = true → dp d ≤ m → ∀ (n : Nat), 6 + m ≤ n → ∀ (st : Store), WFs st → ∃ v : Int, RelN (cnt d) v ∧ runF pg n i__law_size [.p d] st = .ok (.p (.int v)) st := by
  intro m
  induction m with
  | zero =>
    intro d ht hd n hn st wf
    obtain ⟨n, rfl⟩ : ∃ k, n = k + 1 := ⟨n - 1, by omega⟩
    refine ⟨99, ?_, f_is rfl rfl rfl wf ?_⟩
    · rw [cnt_bad fun ds e => by subst e; rw [dp] at hd; omega]
      exact .none (by decide)
    · show wpF (execS (kitOf pg n) pg.fields b__law_size [some (.p d), none, none] st) _
      unfold b__law_size
      have hz : [Ty.tuple].any (tyb d) = false := tyb_tup fun ds e => by subst e; rw [dp] at hd; omega
      refine s_seq (if_is (t := true) (is_nisi (t := false) (is_var rfl) rfl hz) (fun _ => ret_is is_con ⟨by simp, .inl rfl⟩) fun z => by cases z)
  | succ m ih =>
    intro d ht hd n hn st wf
    obtain ⟨n, rfl⟩ : ∃ k, n = k + 1 := ⟨n - 1, by omega⟩
    by_cases hdt : ∀ ds, d ≠ .tuple ds
    · refine ⟨99, ?_, f_is rfl rfl rfl wf ?_⟩
      · rw [cnt_bad hdt]
        exact .none (by decide)
      · show wpF (execS (kitOf pg n) pg.fields b__law_size [some (.p d), none, none] st) _
        unfold b__law_size
        refine s_seq (if_is (t := true) (is_nisi (t := false) (is_var rfl) rfl (tyb_tup hdt)) (fun _ => ret_is is_con ⟨by simp, .inl rfl⟩) fun z => by cases z)
    · obtain ⟨ds, rfl⟩ : ∃ ds, d = .tuple ds := by
        refine Classical.byContradiction fun h => hdt fun ds e => h ⟨ds, e⟩
      obtain ⟨hl, he⟩ := tame_tup ht
      rw [dp] at hd
      have key : wpR (runF pg (n + 1) i__law_size [.p (.tuple ds)] st) (fun w s => s = st ∧ ∃ v : Int, RelN (cnt (.tuple ds)) v ∧ w = .p (.int v)) (fun _ _ _ => False) := by
        refine f_pure rfl rfl rfl wf ?_
        show wpF (execS (kitOf pg n) pg.fields b__law_size [some (.p (.tuple ds)), none, none] st) _
        unfold b__law_size
        refine s_seq (if_is (t := false) (by walk_at "is") (fun z => by cases z) fun _ => s_skip (s_seq (asg_is is_con ?_)))
        show wpF (execS (kitOf pg n) pg.fields _ [some (.p (.tuple ds)), some (.p (.int 0)), none] st) _
        refine s_seq (s_for (fun rest e s => s = st ∧ ∃ done todo, ds = done ++ todo ∧ rest = todo.map Val.p ∧ ∃ (f : Int) (a : Option Val), e = [some (.p (.tuple ds)), some (.p (.int f)), a] ∧ RelN (cntL done) f) ((i_tup (is_var rfl)).any fun items s h => ⟨h.2, [], ds, rfl, h.1, 0, none, rfl, by rw [cntL]; exact .zero⟩) ?_ ?_)
        · rintro v vs e s ⟨rfl, done, todo, hds, hv, f, a, rfl, hf⟩
          cases todo with
          | nil => cases hv
          | cons x todo =>
            cases hv
            have hx : x ∈ ds := by rw [hds]; simp
            have tx := he x hx
            have dx := dp_mem hx
            refine wpO_of rfl ?_
            show wpF (execS (kitOf pg n) pg.fields _ [some (.p (.tuple ds)), some (.p (.int f)), some (.p x)] s) _
            have cd : cnt (.tuple ds) = addO (cntL done) (addO (stm x) (cntL todo)) := by rw [cnt, hds, cntL_app, cntL]
            have nn : stm x = none → RelN (cnt (.tuple ds)) 99 := fun e => by rw [cd, e, none_addO, addO_none]; exact .none (by decide)
            have out : ∀ {D : FK}, D.rt = (fun v s' => s'.take s.length = s ∧ ∃ d, (v = .p d ∨ ∃ k, v = .r k ∧ s.length ≤ k ∧ see s' v = .p d) ∧ s = s ∧ ∃ v : Int, RelN (cnt (.tuple ds)) v ∧ Val.p d = .p (.int v)) → RelN (cnt (.tuple ds)) 99 → wpF (execS (kitOf pg n) pg.fields (.ret (.con (.int 99))) [some (.p (.tuple ds)), some (.p (.int f)), some (.p x)] s) D := fun {D} hD hR => ret_is is_con (by rw [hD]; exact ⟨by simp, _, .inl rfl, rfl, 99, hR, rfl⟩)
            have yes : ∀ {c : Ex} {t : Bool}, Is (kitOf pg n) c [some (.p (.tuple ds)), some (.p (.int f)), some (.p x)] s (.p (.bool t)) → (t = true → RelN (cnt (.tuple ds)) 99) → ∀ {m' : Sm} {D : FK}, D.rt = (fun v s' => s'.take s.length = s ∧ ∃ d, (v = .p d ∨ ∃ k, v = .r k ∧ s.length ≤ k ∧ see s' v = .p d) ∧ s = s ∧ ∃ v : Int, RelN (cnt (.tuple ds)) v ∧ Val.p d = .p (.int v)) → (t = false → wpF (execS (kitOf pg n) pg.fields m' [some (.p (.tuple ds)), some (.p (.int f)), some (.p x)] s) D) →
                wpF (execS (kitOf pg n) pg.fields (.seq (.ife (.cons c .nil) (.ret (.con (.int 99))) .skip) m') [some (.p (.tuple ds)), some (.p (.int f)), some (.p x)] s) D := fun {c t} hc hR {m' D} hD hm => s_seq (if_is hc (fun e => out hD (hR e)) fun e => s_skip (hm e))
            cases stk x with
            | bad hb => exact yes (t := true) (is_or (t1 := true) (t2 := true) (is_nisi (t := false) (is_var rfl) rfl (tyb_tup hb)) fun z => by cases z) (fun _ => nn (stm_bad hb)) rfl fun e => by cases e
            | emp => exact yes (t := true) (is_or (t1 := false) (t2 := true) (by walk_at "is") fun _ => is_or (t1 := true) (t2 := true) (is_eqEmp (is_var rfl) rfl) fun z => by cases z) (fun _ => nn stm_emp) rfl fun e => by cases e
            | @odd y r hb => exact yes (t := true) (is_or (t1 := false) (t2 := true) (by walk_at "is") fun _ => is_or (t1 := false) (t2 := true) (is_eqEmp (is_var rfl) rfl) fun _ => is_nisi (t := false) (is_tup 0 (is_var rfl) rfl) rfl (tyb_str hb)) (fun _ => nn (stm_odd hb)) rfl fun e => by cases e
            | ok w r =>
              obtain ⟨hrl, hre⟩ := tame_tup tx
              have row : Is (kitOf pg n) (.idx (.var 2) (.con (.int 0))) [some (.p (.tuple ds)), some (.p (.int f)), some (.p (.tuple (.str w :: r)))] s (.p (.str w)) := is_tup 0 (is_var rfl) rfl
              refine yes (t := false) (is_or (t1 := false) (t2 := false) (by walk_at "is") fun _ => is_or (t1 := false) (t2 := false) (is_eqEmp (is_var rfl) rfl) fun _ => is_not (is_isi row rfl)) (fun e => by cases e) rfl fun ef => ?_
              have step : ∀ {c : Int}, RelN (stm (.tuple (.str w :: r))) c → RelN (cntL (done ++ [.tuple (.str w :: r)])) (f + c) := fun {c} h => by
                rw [cntL_app, cntL, cntL]
                have : addO (stm (.tuple (.str w :: r))) (some 0) = stm (.tuple (.str w :: r)) := by cases stm (.tuple (.str w :: r)) <;> rfl
                rw [this]
                exact hf.add h
              refine if_is (t := w == ("try" : Str) && (r.length : Int) + 1 == 3) (is_and (is_eqS row is_con) fun _ => is_eqI (by rw [← tail_len (w := .str w)]; exact len_tup (is_var rfl)) is_con) (fun et => ?_) fun et => ?_
              · rw [Bool.and_eq_true] at et
                have ew := eq_of_beq et.1
                have e3 : (r.length : Int) + 1 = 3 := by simpa using et.2
                obtain ⟨a1, a2, rfl⟩ := len2 (r := r) (by simp; omega)
                subst ew
                have d1 := dp_mem (show a1 ∈ [PyData.str "try", a1, a2] by simp)
                have d2 := dp_mem (show a2 ∈ [PyData.str "try", a1, a2] by simp)
                rw [dp] at dx
                obtain ⟨v1, r1, q1⟩ := ih a1 (hre _ (by simp)) (by omega) n (by omega) s wf
                obtain ⟨v2, r2, q2⟩ := ih a2 (hre _ (by simp)) (by omega) n (by omega) s wf
                refine asg_is (is_add (is_add (is_add (is_var rfl) is_con) (is_1 (is_tup 1 (is_var rfl) rfl) q1)) (is_1 (is_tup 2 (is_var rfl) rfl) q2)) ⟨rfl, done ++ [.tuple [.str "try", a1, a2]], todo, by rw [hds]; simp, rfl, f + 1 + v1 + v2, _, rfl, ?_⟩
                have := step (c := 1 + (v1 + v2)) (by rw [stm_try]; exact RelN.one.add (r1.add r2))
                have e4 : f + 1 + v1 + v2 = f + (1 + (v1 + v2)) := by omega
                rw [e4]
                exact this
              · have st0 := stm_ok et
                obtain ⟨n', rfl⟩ : ∃ k, n = k + 4 := ⟨n - 4, by omega⟩
                have hr := l_fits (n := n') (w := w) (r := r) (st := s) wf (fun d hd => hre d (List.mem_cons_of_mem _ hd)) (by simp only [List.length_cons] at hrl; omega)
                refine s_asg (x_ite ((is_1 (is_var rfl) hr).wp (wpO_of (a := plainB w r) rfl (wpB_mk (fun ep => (is_add (i := f) (j := 1) (is_var rfl) is_con).wp ?_) fun ep => x_con ?_))))
                · exact ⟨rfl, done ++ [.tuple (.str w :: r)], todo, by rw [hds]; simp, rfl, f + 1, _, rfl, step (by rw [st0, if_pos ep]; exact .one)⟩
                · refine ⟨rfl, done ++ [.tuple (.str w :: r)], todo, by rw [hds]; simp, rfl, 99, _, rfl, ?_⟩
                  rw [cntL_app, cntL, st0, if_neg (by rw [ep]; decide), none_addO, addO_none]
                  exact .none (by decide)
        · rintro e s ⟨rfl, done, todo, hds, hv, f, a, rfl, hf⟩
          have : todo = [] := by simpa using hv.symm
          subst this
          rw [List.append_nil] at hds
          subst hds
          dsimp only
          refine s_ret (x_bi (l_cons (x_var rfl (l_cons (x_con (l_nil (wpO_of (a := .p (.int (if 99 < f then 99 else f))) rfl ⟨by simp, _, .inl rfl, rfl, _, ?_, rfl⟩)))))))
          rw [cnt]
          exact hf.min (by decide)
      revert key
      cases runF pg (n + 1) i__law_size [.p (.tuple ds)] st with
      | ok w s =>
        rintro ⟨rfl, v, hv, rfl⟩
        exact ⟨v, hv, rfl⟩
      | er c fs s => exact fun h => h.elim
      | no => exact fun h => h.elim
/-- whether it is a body -/
def bodyB (d : PyData) : Bool := match cnt d with
  | some k => decide (k ≤ 40)
  | none => false
theorem RelN.body {d : PyData} {v : Int} (h : RelN (cnt d) v) : decide (v ≤ 40) = bodyB d := by
  unfold bodyB
  have a1 := h.1
  cases e : cnt d with
  | none =>
    rw [e] at h
    simp only [decide_eq_false_iff_not]
    intro q
    have := (h.2 v.toNat (by omega)).mp (by omega)
    cases this
  | some k =>
    rw [e] at h
    apply decide_eq_decide.mpr
    constructor
    · intro q
      have := (h.2 v.toNat (by omega)).mp (by omega)
      cases this
      omega
    · intro q
      have := (h.2 k q).mpr rfl
      omega
theorem r_is_body {m n : Nat} {d : PyData} {st : Store} (wf : WFs st) (ht : tame d = true) (hd : dp d ≤ m) (hn : 7 + m ≤ n) : runF pg n i_is_body [.p d] st = .ok (.p (.bool (bodyB d))) st := by
  obtain ⟨n, rfl⟩ : ∃ k, n = k + 1 := ⟨n - 1, by omega⟩
  obtain ⟨v, hv, q⟩ := r_statements_in m d ht hd n (by omega) st wf
  refine f_is rfl rfl rfl wf ?_
  show wpF (execS (kitOf pg n) pg.fields b_is_body [some (.p d)] st) _
  unfold b_is_body
  rw [← hv.body]
  exact ret_is (is_cmpI (is_2 (is_var rfl) (is_glo rfl) q) (is_glo rfl) rfl) ⟨by simp, .inl rfl⟩
end K05
end

section
/-! words, names, statements: what the defs hand out. -/
namespace K05
open PySem Vm
local macro_rules | `(tactic| walk_at "x1") => `(tactic| first
  | (with_reducible refine x_var ?_ ?_; exact rfl) | (with_reducible refine x_con ?_) | (with_reducible refine x_glo ?_ ?_; exact rfl) | (with_reducible refine x_bin ?_) | (with_reducible refine x_and ?_) | (with_reducible refine x_or ?_) | (with_reducible refine x_not ?_)
  | (with_reducible refine x_ite ?_) | (with_reducible refine x_cmp ?_) | (with_reducible refine x_chn ?_) | (with_reducible refine x_tup ?_) | (with_reducible refine x_lst ?_) | (with_reducible refine x_idx ?_) | (with_reducible refine x_slc ?_) | (with_reducible refine x_call ?_) | (with_reducible refine x_callk ?_)
  | (with_reducible refine x_bi ?_) | (with_reducible refine x_mth ?_) | (with_reducible refine x_isi ?_) | (with_reducible refine l_nil ?_) | (with_reducible refine l_cons ?_) | (with_reducible refine o_nil ?_) | (with_reducible refine o_some ?_) | (with_reducible refine t_nil ?_) | (with_reducible refine t_some ?_)
  | (with_reducible refine s_skip ?_) | (with_reducible refine s_seq ?_) | (with_reducible refine s_asg ?_) | (with_reducible refine s_asgT ?_) | (with_reducible refine s_ex ?_) | (with_reducible refine s_ret ?_) | (with_reducible refine s_ife ?_)
  | (with_reducible refine wpO_of ?_ ?_; exact rfl) | (with_reducible refine wpO_of (isi_p ?_) ?_; exact rfl))
local macro_rules | `(tactic| walk_at "xs") => `(tactic| repeat (walk_at "x1"; try dsimp only))
local macro_rules | `(tactic| walk_at "is") => `(tactic| (refine Is.of ?_; walk_at "xs"; exact ⟨rfl, rfl⟩))




def refS (x : Str) : Bool := nameB x || relB x
/-- the statements without statements in them -/
inductive Pl : Str → List PyData → Prop
  | let_ {x : Str} {i : Int} (h1 : wordB x = true) (h2 : absI (.int i) < 1000000000000000000000000000000) : Pl "let" [.str x, .int i]
  | imp {x : Str} (h : nameB x = true) : Pl "\x69mport" [.str x]
  | as_ {x y : Str} (h1 : refS x = true) (h2 : wordB y = true) : Pl "as" [.str x, .str y]
  | from_ {x y z : Str} (h1 : refS x = true) (h2 : wordB y = true) (h3 : wordB z = true) : Pl "from" [.str x, .str y, .str z]
  | star {x : Str} (h1 : refS x = true) : Pl "star" [.str x]
  | pub {ps : List Str} (h0 : 1 ≤ ps.length) (h1 : ps.length ≤ 40) (h : ps.all wordB = true) : Pl "public" [.tuple (ps.map .str)]
  | read {ps : List Str} {y : Str} (h0 : 1 ≤ ps.length) (h1 : ps.length ≤ 6) (h : ps.all wordB = true) (h2 : wordB y = true) : Pl "read" [.tuple (ps.map .str), .str y]
  | need {ps : List Str} (h0 : 1 ≤ ps.length) (h1 : ps.length ≤ 6) (h : ps.all wordB = true) : Pl "need" [.tuple (ps.map .str)]
  | forget {x : Str} (h : wordB x = true) : Pl "forget" [.str x]
  | stop : Pl "stop" []
theorem wordD_str {d : PyData} (h : wordD d = true) : ∃ s, d = .str s ∧ wordB s = true := by
  cases d with
  | str s => exact ⟨s, rfl, h⟩
  | _ => cases h
theorem nameD_str {d : PyData} (h : nameD d = true) : ∃ s, d = .str s ∧ nameB s = true := by
  cases d with
  | str s => exact ⟨s, rfl, h⟩
  | _ => cases h
theorem refD_str {d : PyData} (h : refD d = true) : ∃ s, d = .str s ∧ refS s = true := by
  cases d with
  | str s => exact ⟨s, rfl, h⟩
  | _ => cases h
theorem words_str : ∀ {ds : List PyData}, ds.all wordD = true → ∃ ps : List Str, ds = ps.map .str ∧ ps.all wordB = true
  | [], _ => ⟨[], rfl, rfl⟩
  | d :: ds, h => by
    rw [List.all_cons, Bool.and_eq_true] at h
    obtain ⟨s, rfl, h1⟩ := wordD_str h.1
    obtain ⟨ps, rfl, h2⟩ := words_str h.2
    exact ⟨s :: ps, rfl, by rw [List.all_cons, h1, h2]; rfl⟩
theorem wordsD_str {d : PyData} {m : Int} (h : wordsD d m = true) : ∃ ps : List Str, d = .tuple (ps.map .str) ∧ ps.all wordB = true ∧ 1 ≤ ps.length ∧ (ps.length : Int) ≤ m := by
  cases d with
  | tuple ds =>
    have h : wordsB ds m = true := h
    unfold wordsB at h
    simp only [Bool.and_eq_true, decide_eq_true_eq] at h
    obtain ⟨ps, rfl, h2⟩ := words_str h.2
    simp only [List.length_map] at h
    exact ⟨ps, rfl, h2, by omega, h.1.2⟩
  | _ => cases h
theorem pl_of {w : Str} {r : List PyData} (h : plainB w r = true) : Pl w r := by
  unfold plainB at h
  split at h
  · rename_i e
    rw [eq_of_beq e]
    rw [Bool.and_eq_true] at h
    obtain ⟨a, b, rfl⟩ := len2 h.1
    have h := h.2
    simp only [Bool.and_eq_true, decide_eq_true_eq] at h
    obtain ⟨s, e1, h1⟩ := wordD_str h.1
    have e1 : a = .str s := e1
    subst e1
    have h2 : intD b = true := h.2.1
    cases b with
    | int i => exact .let_ h1 h.2.2
    | _ => cases h2
  split at h
  · rename_i e
    rw [eq_of_beq e]
    rw [Bool.and_eq_true] at h
    obtain ⟨a, rfl⟩ := len1 h.1
    obtain ⟨s, e1, h1⟩ := nameD_str h.2
    have e1 : a = .str s := e1
    subst e1
    exact .imp h1
  split at h
  · rename_i e
    rw [eq_of_beq e]
    simp only [Bool.and_eq_true] at h
    obtain ⟨a, b, rfl⟩ := len2 h.1
    obtain ⟨s, e1, h1⟩ := refD_str h.2.1
    obtain ⟨z, e2, h2⟩ := wordD_str h.2.2
    have e1 : a = .str s := e1
    have e2 : b = .str z := e2
    subst e1 e2
    exact .as_ h1 h2
  split at h
  · rename_i e
    rw [eq_of_beq e]
    simp only [Bool.and_eq_true] at h
    obtain ⟨a, b, c, rfl⟩ := len3 h.1
    obtain ⟨s, e1, h1⟩ := refD_str h.2.1
    obtain ⟨z, e2, h2⟩ := wordD_str h.2.2.1
    obtain ⟨y, e3, h3⟩ := wordD_str h.2.2.2
    have e1 : a = .str s := e1
    have e2 : b = .str z := e2
    have e3 : c = .str y := e3
    subst e1 e2 e3
    exact .from_ h1 h2 h3
  split at h
  · rename_i e
    rw [eq_of_beq e]
    rw [Bool.and_eq_true] at h
    obtain ⟨a, rfl⟩ := len1 h.1
    obtain ⟨s, e1, h1⟩ := refD_str h.2
    have e1 : a = .str s := e1
    subst e1
    exact .star h1
  split at h
  · rename_i e
    rw [eq_of_beq e]
    rw [Bool.and_eq_true] at h
    obtain ⟨a, rfl⟩ := len1 h.1
    obtain ⟨ps, e1, h1, h2, h3⟩ := wordsD_str h.2
    have e1 : a = .tuple (ps.map .str) := e1
    subst e1
    exact .pub h2 (by omega) h1
  split at h
  · rename_i e
    rw [eq_of_beq e]
    simp only [Bool.and_eq_true] at h
    obtain ⟨a, b, rfl⟩ := len2 h.1
    obtain ⟨ps, e1, h1, h2, h3⟩ := wordsD_str h.2.1
    obtain ⟨z, e2, h4⟩ := wordD_str h.2.2
    have e1 : a = .tuple (ps.map .str) := e1
    have e2 : b = .str z := e2
    subst e1 e2
    exact .read h2 (by omega) h1 h4
  split at h
  · rename_i e
    rw [eq_of_beq e]
    rw [Bool.and_eq_true] at h
    obtain ⟨a, rfl⟩ := len1 h.1
    obtain ⟨ps, e1, h1, h2, h3⟩ := wordsD_str h.2
    have e1 : a = .tuple (ps.map .str) := e1
    subst e1
    exact .need h2 (by omega) h1
  split at h
  · rename_i e
    rw [eq_of_beq e]
    rw [Bool.and_eq_true] at h
    obtain ⟨a, rfl⟩ := len1 h.1
    obtain ⟨s, e1, h1⟩ := wordD_str h.2
    have e1 : a = .str s := e1
    subst e1
    exact .forget h1
  · simp only [Bool.and_eq_true] at h
    rw [eq_of_beq h.1]
    have : r = [] := by
      have h2 := h.2
      cases r with
      | nil => rfl
      | cons a t => simp at h2; omega
    subst this
    exact .stop
/-! ### signs -/
def okc (s : Str) : Prop := ∀ c ∈ s.cps.toList, 45 ≤ c ∧ c ≤ 122
def short (n : Nat) (s : Str) : Prop := okc s ∧ s.length ≤ n
theorem short_mono {n m : Nat} {s : Str} (h : short n s) (l : n ≤ m) : short m s := ⟨h.1, Nat.le_trans h.2 l⟩
theorem letters_ok : ∀ c ∈ letters, 45 ≤ c ∧ c ≤ 122 := by decide
theorem word_short {s : Str} (h : wordB s = true) : short 8 s := by
  unfold wordB at h
  simp only [Bool.and_eq_true, decide_eq_true_eq, List.all_eq_true] at h
  exact ⟨fun c hc => letters_ok c (h.2 c hc), h.1.1.2⟩
theorem joinL_mem {S : List Nat} : ∀ {ps : List (List Nat)} {c : Nat}, c ∈ TL.joinL S ps → c ∈ S ∨ ∃ p ∈ ps, c ∈ p
  | [], c, h => by simp [TL.joinL] at h
  | [p], c, h => .inr ⟨p, by simp, h⟩
  | p :: q :: r, c, h => by
    have h : c ∈ p ++ (S ++ TL.joinL S (q :: r)) := h
    rcases List.mem_append.mp h with h | h
    · exact .inr ⟨p, by simp, h⟩
    · rcases List.mem_append.mp h with h | h
      · exact .inl h
      · rcases joinL_mem h with h | ⟨x, hx, h⟩
        · exact .inl h
        · exact .inr ⟨x, List.mem_cons_of_mem _ hx, h⟩
theorem join_okc {b : Str} {ps : List Str} (hb : okc b) (h : ∀ p ∈ ps, okc p) : okc (Str.join b ps) := fun c hc => by
  have hc : c ∈ TL.tl (Str.join b ps) := hc
  rw [TL.tl_join] at hc
  rcases joinL_mem hc with h1 | ⟨p, hp, h1⟩
  · exact hb c h1
  · obtain ⟨q, hq, rfl⟩ := List.mem_map.mp hp
    exact h q hq c h1
theorem join_len {b : Str} {m : Nat} : ∀ {ps : List Str}, (∀ p ∈ ps, p.length ≤ m) → (Str.join b ps).length ≤ ps.length * (m + b.length)
  | [], _ => by show 0 ≤ _; omega
  | [p], h => by
    have := h p (by simp)
    show p.length ≤ _
    simp only [List.length_cons, List.length_nil, Nat.zero_add, Nat.one_mul]
    omega
  | p :: q :: r, h => by
    have e : (Str.join b (p :: q :: r)).length = p.length + b.length + (Str.join b (q :: r)).length := by
      show (p ++ b ++ Str.join b (q :: r)).length = _
      simp only [Str.length, Str.cps_append, Array.size_append]
    have h1 := h p (by simp)
    have h2 := join_len (b := b) (m := m) (ps := q :: r) fun x hx => h x (List.mem_cons_of_mem _ hx)
    rw [e]
    have : (p :: q :: r).length * (m + b.length) = (m + b.length) + (q :: r).length * (m + b.length) := by
      rw [List.length_cons (as := q :: r), Nat.add_mul, Nat.one_mul, Nat.add_comm]
    omega
theorem dot_ok : okc dot := by
  have : dot.cps.toList = [46] := by decide +kernel
  intro c hc
  rw [this] at hc
  simp at hc
  omega
theorem dot_len : dot.length = 1 := by decide +kernel
theorem name_short {s : Str} (h : nameB s = true) : short 36 s := by
  unfold nameB at h
  simp only [Bool.and_eq_true, decide_eq_true_eq, List.all_eq_true] at h
  have j := StrLaws.join_split s dot
  refine ⟨?_, ?_⟩
  · rw [← j]
    exact join_okc dot_ok fun p hp => (word_short (h.2 p hp)).1
  · have l := join_len (b := dot) (m := 8) (ps := Txt.split s dot) fun p hp => (word_short (h.2 p hp)).2
    rw [j, dot_len] at l
    omega
theorem takeLead {l : List Nat} : ∀ c ∈ l.take (lead l), c = 46 := fun c hc => by
  obtain ⟨k, hk, e⟩ := List.mem_iff_getElem.mp hc
  have hk' : k < lead l := by rw [List.length_take] at hk; omega
  have := lead_lt hk'
  rw [List.getElem_take] at e
  have hkl : k < l.length := by rw [List.length_take] at hk; omega
  rw [List.getElem?_eq_getElem hkl] at this
  have this := Option.some.inj this
  rw [← e, this]
theorem ref_short {s : Str} (h : refS s = true) : short 40 s := by
  unfold refS at h
  rw [Bool.or_eq_true] at h
  rcases h with h | h
  · exact short_mono (name_short h) (by decide)
  · unfold relB at h
    simp only [Bool.and_eq_true, decide_eq_true_eq, Bool.or_eq_true] at h
    have hr : short 36 (Txt.lstripChars s dot) := by
      rcases h.2 with e | e
      · rw [eq_of_beq e]
        have e0 : ("" : Str).cps.toList = [] := by decide +kernel
        refine ⟨fun c hc => ?_, by decide +kernel⟩
        rw [e0] at hc
        cases hc
      · exact name_short e
    refine ⟨fun c hc => ?_, by have := hr.2; omega⟩
    rw [← List.take_append_drop (lead s.cps.toList) s.cps.toList] at hc
    rcases List.mem_append.mp hc with q | q
    · have := takeLead c q
      omega
    · rw [← lstrip_dot] at q
      exact hr.1 c q
theorem tl_neg (m : Nat) : (Str.ofString (toString (Int.negSucc m))).cps.toList = 45 :: TL.numL (m + 1) := by
  have e : toString (Int.negSucc m) = "-" ++ Nat.repr (m + 1) := rfl
  rw [e, Str.ofString_eq_toList]
  have e2 : ("-" ++ Nat.repr (m + 1)).toList = '-' :: (Nat.repr (m + 1)).toList := by simp
  rw [e2]
  have e3 : (Nat.repr (m + 1)).toList.map Char.toNat = TL.numL (m + 1) := by
    have := PySem.W.KIN.signs_num (m + 1)
    rw [Str.ofString_eq_toList] at this
    exact this
  simp only [List.map_cons]
  rw [e3]
  rfl
theorem pow30N : (10 : Nat) ^ 30 = 1000000000000000000000000000000 := by decide
theorem int_cases {i : Int} (h : absI (.int i) < 1000000000000000000000000000000) : (∃ n : Nat, i = n ∧ n < 10 ^ 30) ∨ ∃ m : Nat, i = Int.negSucc m ∧ m + 1 < 10 ^ 30 := by
  rw [pow30N]
  have h : (if i < 0 then -i else i) < 1000000000000000000000000000000 := h
  cases i with
  | ofNat n =>
    left
    refine ⟨n, rfl, ?_⟩
    have h : (if (n : Int) < 0 then -(n : Int) else (n : Int)) < 1000000000000000000000000000000 := h
    split at h <;> omega
  | negSucc m =>
    right
    refine ⟨m, rfl, ?_⟩
    rw [if_pos (Int.negSucc_lt_zero m)] at h
    omega
theorem num_okc (n : Nat) : ∀ c ∈ TL.numL n, 45 ≤ c ∧ c ≤ 122 := fun c hc => by
  rcases Nat.lt_or_ge c 48 with q | q
  · exact absurd hc (TL.numL_free (.inl q))
  · rcases Nat.lt_or_ge 57 c with q2 | q2
    · exact absurd hc (TL.numL_free (.inr q2))
    · omega
theorem int_short {i : Int} (h : absI (.int i) < 1000000000000000000000000000000) : short 31 (Str.ofString (toString i)) := by
  rcases int_cases h with ⟨n, rfl, hn⟩ | ⟨m, rfl, hm⟩
  · have e : (Str.ofString (toString ((n : Nat) : Int))).cps.toList = TL.numL n := TL.tl_num n
    refine ⟨fun c hc => num_okc n c (by rw [← e]; exact hc), ?_⟩
    have := TL.numL_len (by decide) hn
    have l := congrArg List.length e
    simp only [Array.length_toList] at l
    show _ ≤ 31
    unfold Str.length
    omega
  · have e := tl_neg m
    refine ⟨fun c hc => ?_, ?_⟩
    · rw [e] at hc
      rcases List.mem_cons.mp hc with rfl | hc
      · omega
      · exact num_okc _ c hc
    · have := TL.numL_len (by decide) hm
      have l := congrArg List.length e
      simp only [Array.length_toList, List.length_cons] at l
      show _ ≤ 31
      unfold Str.length
      omega
end K05
end

section
/-! words, names, statements: what the defs hand out. -/
namespace K05
open PySem Vm
local macro_rules | `(tactic| walk_at "x1") => `(tactic| first
  | (with_reducible refine x_var ?_ ?_; exact rfl) | (with_reducible refine x_con ?_) | (with_reducible refine x_glo ?_ ?_; exact rfl) | (with_reducible refine x_bin ?_) | (with_reducible refine x_and ?_) | (with_reducible refine x_or ?_) | (with_reducible refine x_not ?_)
  | (with_reducible refine x_ite ?_) | (with_reducible refine x_cmp ?_) | (with_reducible refine x_chn ?_) | (with_reducible refine x_tup ?_) | (with_reducible refine x_lst ?_) | (with_reducible refine x_idx ?_) | (with_reducible refine x_slc ?_) | (with_reducible refine x_call ?_) | (with_reducible refine x_callk ?_)
  | (with_reducible refine x_bi ?_) | (with_reducible refine x_mth ?_) | (with_reducible refine x_isi ?_) | (with_reducible refine l_nil ?_) | (with_reducible refine l_cons ?_) | (with_reducible refine o_nil ?_) | (with_reducible refine o_some ?_) | (with_reducible refine t_nil ?_) | (with_reducible refine t_some ?_)
  | (with_reducible refine s_skip ?_) | (with_reducible refine s_seq ?_) | (with_reducible refine s_asg ?_) | (with_reducible refine s_asgT ?_) | (with_reducible refine s_ex ?_) | (with_reducible refine s_ret ?_) | (with_reducible refine s_ife ?_)
  | (with_reducible refine wpO_of ?_ ?_; exact rfl) | (with_reducible refine wpO_of (isi_p ?_) ?_; exact rfl))
local macro_rules | `(tactic| walk_at "xs") => `(tactic| repeat (walk_at "x1"; try dsimp only))
local macro_rules | `(tactic| walk_at "is") => `(tactic| (refine Is.of ?_; walk_at "xs"; exact ⟨rfl, rfl⟩))




def strOfD : PyData → Str
  | .str s => s
  | .int i => Str.ofString (toString i)
  | _ => ""
def tupE : PyData → List PyData
  | .tuple ds => ds
  | _ => []
abbrev spc : Str := " "
abbrev eol : Str := "\n"
def isRN (w : Str) : Bool := ("read" : Str) == w || ("need" : Str) == w
def parts (w : Str) (r : List PyData) : List Str :=
  if isRN w then w :: Txt.join dot ((tupE (r.getD 0 .none)).map strOfD) :: (r.drop 1).map strOfD
  else if w == ("public" : Str) then w :: (tupE (r.getD 0 .none)).map strOfD
  else w :: r.map strOfD
def line (w : Str) (r : List PyData) : Str := Txt.join spc (parts w r)
theorem strs_back (ps : List Str) : (ps.map PyData.str).map strOfD = ps := by
  rw [List.map_map]
  exact List.map_id _
theorem lit_short {s : Str} (h : (s.cps.toList.all fun c => decide (45 ≤ c) && decide (c ≤ 122)) = true) (h2 : s.length ≤ 8) : short 64 s := by
  refine ⟨fun c hc => ?_, by omega⟩
  have := List.all_eq_true.mp h c hc
  simp only [Bool.and_eq_true, decide_eq_true_eq] at this
  exact this
theorem path_short {ps : List Str} (h : ps.all wordB = true) (hl : ps.length ≤ 6) : short 64 (Txt.join dot ps) := by
  rw [TL.join_eq]
  have hw := List.all_eq_true.mp h
  refine ⟨join_okc dot_ok fun p hp => (word_short (hw p hp)).1, ?_⟩
  have := join_len (b := dot) (m := 8) (ps := ps) fun p hp => (word_short (hw p hp)).2
  rw [dot_len] at this
  omega
/-- what the parts are like -/
structure PartsOk (w : Str) (r : List PyData) : Prop where
  sh : ∀ p ∈ parts w r, short 64 p
  len : (parts w r).length ≤ 41
  one : 1 ≤ (parts w r).length
  hd : (parts w r)[0]? = some w
  wk : w ≠ "try" ∧ w ≠ "except" ∧ w ≠ "end"
theorem parts_ok {w : Str} {r : List PyData} (h : Pl w r) : PartsOk w r := by
  have two : ∀ {a : Str} {l : List Str}, short 64 a → (∀ p ∈ l, short 64 p) → ∀ p ∈ a :: l, short 64 p := fun ha hl p hp => by
    rcases List.mem_cons.mp hp with rfl | hp
    · exact ha
    · exact hl p hp
  have nil : ∀ p ∈ ([] : List Str), short 64 p := fun p hp => by cases hp
  cases h with
  | @let_ x i h1 h2 =>
    have e : parts "let" [.str x, .int i] = (["let", x, Str.ofString (toString i)] : List Str) := by kernel_rfl
    exact ⟨by rw [e]; exact two (lit_short (by decide +kernel) (by decide +kernel)) (two (short_mono (word_short h1) (by decide)) (two (short_mono (int_short h2) (by decide)) nil)), by rw [e]; show 3 ≤ 41; decide, by rw [e]; show 1 ≤ 3; decide, by rw [e]; rfl, by decide +kernel⟩
  | @imp x h1 =>
    have e : parts "\x69mport" [.str x] = (["\x69mport", x] : List Str) := by kernel_rfl
    exact ⟨by rw [e]; exact two (lit_short (by decide +kernel) (by decide +kernel)) (two (short_mono (name_short h1) (by decide)) nil), by rw [e]; show 2 ≤ 41; decide, by rw [e]; show 1 ≤ 2; decide, by rw [e]; rfl, by decide +kernel⟩
  | @as_ x y h1 h2 =>
    have e : parts "as" [.str x, .str y] = (["as", x, y] : List Str) := by kernel_rfl
    exact ⟨by rw [e]; exact two (lit_short (by decide +kernel) (by decide +kernel)) (two (short_mono (ref_short h1) (by decide)) (two (short_mono (word_short h2) (by decide)) nil)), by rw [e]; show 3 ≤ 41; decide, by rw [e]; show 1 ≤ 3; decide, by rw [e]; rfl, by decide +kernel⟩
  | @from_ x y z h1 h2 h3 =>
    have e : parts "from" [.str x, .str y, .str z] = (["from", x, y, z] : List Str) := by kernel_rfl
    exact ⟨by rw [e]; exact two (lit_short (by decide +kernel) (by decide +kernel)) (two (short_mono (ref_short h1) (by decide)) (two (short_mono (word_short h2) (by decide)) (two (short_mono (word_short h3) (by decide)) nil))), by rw [e]; show 4 ≤ 41; decide, by rw [e]; show 1 ≤ 4; decide, by rw [e]; rfl, by decide +kernel⟩
  | @star x h1 =>
    have e : parts "star" [.str x] = (["star", x] : List Str) := by kernel_rfl
    exact ⟨by rw [e]; exact two (lit_short (by decide +kernel) (by decide +kernel)) (two (short_mono (ref_short h1) (by decide)) nil), by rw [e]; show 2 ≤ 41; decide, by rw [e]; show 1 ≤ 2; decide, by rw [e]; rfl, by decide +kernel⟩
  | @pub ps h0 h1 h =>
    have e : parts "public" [.tuple (ps.map .str)] = ("public" : Str) :: (ps.map PyData.str).map strOfD := by kernel_rfl
    rw [strs_back] at e
    exact ⟨by rw [e]; exact two (lit_short (by decide +kernel) (by decide +kernel)) fun p hp => short_mono (word_short (List.all_eq_true.mp h p hp)) (by decide), by rw [e]; simp only [List.length_cons]; omega, by rw [e]; simp only [List.length_cons]; omega, by rw [e]; rfl, by decide +kernel⟩
  | @read ps y h0 h1 h h2 =>
    have e : parts "read" [.tuple (ps.map .str), .str y] = (["read", Txt.join dot ((ps.map PyData.str).map strOfD), y] : List Str) := by kernel_rfl
    rw [strs_back] at e
    exact ⟨by rw [e]; exact two (lit_short (by decide +kernel) (by decide +kernel)) (two (path_short h h1) (two (short_mono (word_short h2) (by decide)) nil)), by rw [e]; show 3 ≤ 41; decide, by rw [e]; show 1 ≤ 3; decide, by rw [e]; rfl, by decide +kernel⟩
  | @need ps h0 h1 h =>
    have e : parts "need" [.tuple (ps.map .str)] = (["need", Txt.join dot ((ps.map PyData.str).map strOfD)] : List Str) := by kernel_rfl
    rw [strs_back] at e
    exact ⟨by rw [e]; exact two (lit_short (by decide +kernel) (by decide +kernel)) (two (path_short h h1) nil), by rw [e]; show 2 ≤ 41; decide, by rw [e]; show 1 ≤ 2; decide, by rw [e]; rfl, by decide +kernel⟩
  | @forget x h1 =>
    have e : parts "forget" [.str x] = (["forget", x] : List Str) := by kernel_rfl
    exact ⟨by rw [e]; exact two (lit_short (by decide +kernel) (by decide +kernel)) (two (short_mono (word_short h1) (by decide)) nil), by rw [e]; show 2 ≤ 41; decide, by rw [e]; show 1 ≤ 2; decide, by rw [e]; rfl, by decide +kernel⟩
  | stop =>
    have e : parts "stop" [] = (["stop"] : List Str) := by kernel_rfl
    exact ⟨by rw [e]; exact two (lit_short (by decide +kernel) (by decide +kernel)) nil, by rw [e]; show 1 ≤ 41; decide, by rw [e]; show 1 ≤ 1; decide, by rw [e]; rfl, by decide +kernel⟩
theorem sum_le {ps : List Str} {m : Nat} (h : ∀ p ∈ ps, p.length ≤ m) : (ps.map (·.length)).sum ≤ ps.length * m := by
  induction ps with
  | nil => simp
  | cons p ps ih =>
    have h1 := h p (by simp)
    have h2 := ih fun q hq => h q (List.mem_cons_of_mem _ hq)
    rw [List.map_cons, List.sum_cons, List.length_cons, Nat.add_mul, Nat.one_mul]
    omega
theorem joinSz_of {ps : List Str} {sep : Str} {m : Nat} (h : ∀ p ∈ ps, p.length ≤ m) (h2 : ps.length * m + ps.length * sep.length ≤ SZ) : joinSz ps sep = true := by
  unfold joinSz
  have := sum_le h
  exact decide_eq_true (by omega)
theorem spc_len : spc.length = 1 := by decide +kernel
theorem parts_sz {w : Str} {r : List PyData} (h : Pl w r) : joinSz (parts w r) spc = true := by
  have p := parts_ok h
  refine joinSz_of (m := 64) (fun q hq => (p.sh q hq).2) ?_
  have := p.len
  rw [spc_len]
  have : SZ = 16777216 := rfl
  omega
theorem log_small {i : Int} (h : absI (.int i) < 1000000000000000000000000000000) : i.natAbs.log2 < 1920 := by
  have hb : i.natAbs < 2 ^ 1920 := by
    have h1 : i.natAbs < 10 ^ 30 := by
      rcases int_cases h with ⟨n, rfl, hn⟩ | ⟨m, rfl, hm⟩
      · simpa using hn
      · simpa using hm
    exact Nat.lt_trans h1 (by decide)
  rcases Nat.eq_zero_or_pos i.natAbs with e | e
  · rw [e]; decide
  · exact (Nat.log2_lt (by omega)).mpr hb
/-- str of a part -/
theorem is_strD {K : Kit} {a : Ex} {env : Vm.Env} {st : Store} {d : PyData} (h1 : Is K a env st (.p d)) (h : (∃ s, d = .str s) ∨ ∃ i, d = .int i ∧ i.natAbs.log2 < 1920) : Is K (.bi .str (.cons a .nil)) env st (.p (.str (strOfD d))) := by
  refine Is.of (x_bi (l_cons (h1.wp (l_nil (wpO_of (a := .p (.str (strOfD d))) ?_ ⟨rfl, rfl⟩)))))
  rcases h with ⟨s, rfl⟩ | ⟨i, rfl, hi⟩
  · rfl
  · show (if i.natAbs.log2 < 1920 then some (PyData.str (Str.ofString (toString i))) else none).map Val.p = _
    rw [if_pos hi]
    rfl
/-- the statement's own part of it: its parts joined -/
theorem any_rn (w : Str) : ([PyData.str "read", .str "need"].any fun z => PyData.eqv z (.str w)) = isRN w := by
  simp [eqv_strs, isRN]
end K05
end

section
/-! words, names, statements: what the defs hand out. -/
namespace K05
open PySem Vm
local macro_rules | `(tactic| walk_at "x1") => `(tactic| first
  | (with_reducible refine x_var ?_ ?_; exact rfl) | (with_reducible refine x_con ?_) | (with_reducible refine x_glo ?_ ?_; exact rfl) | (with_reducible refine x_bin ?_) | (with_reducible refine x_and ?_) | (with_reducible refine x_or ?_) | (with_reducible refine x_not ?_)
  | (with_reducible refine x_ite ?_) | (with_reducible refine x_cmp ?_) | (with_reducible refine x_chn ?_) | (with_reducible refine x_tup ?_) | (with_reducible refine x_lst ?_) | (with_reducible refine x_idx ?_) | (with_reducible refine x_slc ?_) | (with_reducible refine x_call ?_) | (with_reducible refine x_callk ?_)
  | (with_reducible refine x_bi ?_) | (with_reducible refine x_mth ?_) | (with_reducible refine x_isi ?_) | (with_reducible refine l_nil ?_) | (with_reducible refine l_cons ?_) | (with_reducible refine o_nil ?_) | (with_reducible refine o_some ?_) | (with_reducible refine t_nil ?_) | (with_reducible refine t_some ?_)
  | (with_reducible refine s_skip ?_) | (with_reducible refine s_seq ?_) | (with_reducible refine s_asg ?_) | (with_reducible refine s_asgT ?_) | (with_reducible refine s_ex ?_) | (with_reducible refine s_ret ?_) | (with_reducible refine s_ife ?_)
  | (with_reducible refine wpO_of ?_ ?_; exact rfl) | (with_reducible refine wpO_of (isi_p ?_) ?_; exact rfl))
local macro_rules | `(tactic| walk_at "xs") => `(tactic| repeat (walk_at "x1"; try dsimp only))
local macro_rules | `(tactic| walk_at "is") => `(tactic| (refine Is.of ?_; walk_at "xs"; exact ⟨rfl, rfl⟩))




mutual
def rows : PyData → List Str
  | .tuple ds => rowsL ds
  | _ => []
def rowsL : List PyData → List Str
  | [] => []
  | d :: ds => rowS d ++ rowsL ds
def rowS : PyData → List Str
  | .tuple [.str w, a, b] => if w == ("try" : Str) then ("try" : Str) :: (rows a ++ ("except" : Str) :: (rows b ++ [("end" : Str)])) else [line w [a, b]]
  | .tuple (.str w :: r) => [line w r]
  | _ => []
end
theorem rowS_try (a b : PyData) : rowS (.tuple [.str "try", a, b]) = ("try" : Str) :: (rows a ++ ("except" : Str) :: (rows b ++ [("end" : Str)])) := by
  rw [rowS, if_pos (by decide +kernel)]
theorem rowS_line {w : Str} {r : List PyData} (h : (w == ("try" : Str)) = false) : rowS (.tuple (.str w :: r)) = [line w r] := by
  match r with
  | [a, b] => rw [rowS, if_neg (by rw [h]; decide)]
  | [] => rw [rowS]; intro x y z; simp at z
  | [a] => rw [rowS]; intro x y z; simp at z
  | a :: b :: c :: t => rw [rowS]; intro x y z; simp at z
theorem rowsL_app : ∀ xs ys : List PyData, rowsL (xs ++ ys) = rowsL xs ++ rowsL ys
  | [], ys => by rw [List.nil_append, rowsL, List.nil_append]
  | x :: xs, ys => by rw [List.cons_append, rowsL, rowsL, rowsL_app xs ys, List.append_assoc]
/-- the looks of a good statement -/
inductive Gs : PyData → Nat → Prop
  | pl {w : Str} {r : List PyData} (h : Pl w r) : Gs (.tuple (.str w :: r)) 1
  | tr {a b : PyData} {x y : Nat} (h1 : cnt a = some x) (h2 : cnt b = some y) : Gs (.tuple [.str "try", a, b]) (1 + (x + y))
theorem pl_try {w : Str} {r : List PyData} (h : Pl w r) : (w == ("try" : Str)) = false := by
  have := (parts_ok h).wk.1
  cases e : (w == ("try" : Str)) with
  | false => rfl
  | true => exact absurd (eq_of_beq e) this
theorem gs_of {d : PyData} {k : Nat} (h : stm d = some k) : Gs d k := by
  cases stk d with
  | bad hb => rw [stm_bad hb] at h; cases h
  | emp => rw [stm_emp] at h; cases h
  | odd hb => rw [stm_odd hb] at h; cases h
  | ok w r =>
    cases et : (w == ("try" : Str) && (r.length : Int) + 1 == 3) with
    | false =>
      rw [stm_ok et] at h
      split at h
      · cases h
        exact .pl (pl_of (by assumption))
      · cases h
    | true =>
      rw [Bool.and_eq_true] at et
      have e3 : (r.length : Int) + 1 = 3 := by simpa using et.2
      obtain ⟨a1, a2, rfl⟩ := len2 (r := r) (by simp; omega)
      have ew := eq_of_beq et.1
      subst ew
      rw [stm_try] at h
      cases e1 : cnt a1 with
      | none => rw [e1, none_addO, addO_none] at h; cases h
      | some x =>
        cases e2 : cnt a2 with
        | none => rw [e2, addO_none, addO_none] at h; cases h
        | some y =>
          rw [e1, e2] at h
          have h : some (1 + (x + y)) = some k := h
          cases h
          exact .tr e1 e2
theorem cntL_cons {d : PyData} {ds : List PyData} {k : Nat} (h : cntL (d :: ds) = some k) : ∃ x y, Gs d x ∧ cntL ds = some y ∧ x + y = k := by
  rw [cntL] at h
  cases e1 : stm d with
  | none => rw [e1, none_addO] at h; cases h
  | some x =>
    cases e2 : cntL ds with
    | none => rw [e2, addO_none] at h; cases h
    | some y =>
      rw [e1, e2] at h
      have h : some (x + y) = some k := h
      cases h
      exact ⟨x, y, gs_of e1, rfl, rfl⟩
theorem cntL_split {xs ys : List PyData} {k : Nat} (h : cntL (xs ++ ys) = some k) : ∃ x y, cntL xs = some x ∧ cntL ys = some y ∧ x + y = k := by
  rw [cntL_app] at h
  cases e1 : cntL xs with
  | none => rw [e1, none_addO] at h; cases h
  | some x =>
    cases e2 : cntL ys with
    | none => rw [e2, addO_none] at h; cases h
    | some y =>
      rw [e1, e2] at h
      have h : some (x + y) = some k := h
      cases h
      exact ⟨x, y, rfl, rfl, rfl⟩
theorem cnt_tup {d : PyData} {k : Nat} (h : cnt d = some k) : ∃ ds, d = .tuple ds ∧ cntL ds = some k := by
  cases d with
  | tuple ds => rw [cnt] at h; exact ⟨ds, rfl, h⟩
  | _ => rw [cnt_bad (by intro ds e; cases e)] at h; cases h
theorem dp_parts {w a b : PyData} : dp a < dp (.tuple [w, a, b]) ∧ dp b < dp (.tuple [w, a, b]) := by
  have h1 := dp_mem (show a ∈ [w, a, b] by simp)
  have h2 := dp_mem (show b ∈ [w, a, b] by simp)
  rw [dp]
  omega
theorem dp_in {d : PyData} {ds : List PyData} (h : d ∈ ds) : dp d < dp (.tuple ds) := by
  have := dp_mem h
  rw [dp]
  omega
/-- lines are many at most -/
theorem rows_len : ∀ (m : Nat) (d : PyData), dp d ≤ m → ∀ k, cnt d = some k → (rows d).length ≤ 3 * k := by
  intro m
  induction m with
  | zero =>
    intro d hd k h
    obtain ⟨ds, rfl, _⟩ := cnt_tup h
    rw [dp] at hd
    omega
  | succ m ih =>
    intro d hd k h
    obtain ⟨ds, rfl, h⟩ := cnt_tup h
    rw [dp] at hd
    rw [rows]
    have key : ∀ (ds : List PyData), dpL ds ≤ m → ∀ k, cntL ds = some k → (rowsL ds).length ≤ 3 * k := by
      intro ds
      induction ds with
      | nil => intro _ k _; rw [rowsL]; exact Nat.zero_le _
      | cons x xs ihx =>
        intro hd k h
        rw [dpL] at hd
        obtain ⟨a, b, g, h2, rfl⟩ := cntL_cons h
        rw [rowsL, List.length_append]
        have r2 := ihx (by omega) b h2
        have r1 : (rowS x).length ≤ 3 * a := by
          cases g with
          | pl hp => rw [rowS_line (pl_try hp)]; show 1 ≤ 3; decide
          | @tr p q x y h1 h2 =>
            rw [rowS_try]
            have d1 := dp_parts (w := .str "try") (a := p) (b := q)
            have k1 := ih p (by omega) x h1
            have k2 := ih q (by omega) y h2
            simp only [List.length_cons, List.length_append, List.length_nil]
            omega
        omega
    exact key ds (by omega) k h
/-- a part that str or a line takes -/
def scal (d : PyData) : Prop := (∃ s, d = .str s) ∨ ∃ i, d = .int i ∧ i.natAbs.log2 < 1920
/-- what is joined into a line, as the program reckons it -/
theorem pl_rn {w : Str} {r : List PyData} (h : Pl w r) (e : isRN w = true) : ∃ ps ys : List Str, r = .tuple (ps.map .str) :: ys.map .str ∧ (∀ p ∈ ps, p.length ≤ 8) ∧ ps.length ≤ 6 := by
  have wl : ∀ {ps : List Str}, ps.all wordB = true → ∀ p ∈ ps, p.length ≤ 8 := fun h p hp => (word_short (List.all_eq_true.mp h p hp)).2
  cases h with
  | read h0 h1 h h2 => exact ⟨_, [_], rfl, wl h, h1⟩
  | need h0 h1 h => exact ⟨_, [], rfl, wl h, h1⟩
  | _ => exact absurd e (by decide +kernel)
theorem pl_pub {w : Str} {r : List PyData} (h : Pl w r) (e : (w == ("public" : Str)) = true) : ∃ ps : List Str, r = [.tuple (ps.map .str)] := by
  cases h with
  | pub h0 h1 h => exact ⟨_, rfl⟩
  | _ => exact absurd e (by decide +kernel)
theorem pl_other {w : Str} {r : List PyData} (h : Pl w r) (e1 : isRN w = false) (e2 : (w == ("public" : Str)) = false) : ∀ d ∈ r, scal d := by
  have s : ∀ x, scal (.str x) := fun x => .inl ⟨x, rfl⟩
  cases h with
  | let_ h1 h2 =>
    intro d hd
    simp only [List.mem_cons, List.not_mem_nil, or_false] at hd
    rcases hd with rfl | rfl
    · exact s _
    · exact .inr ⟨_, rfl, log_small h2⟩
  | pub => exact absurd e2 (by decide +kernel)
  | read => exact absurd e1 (by decide +kernel)
  | need => exact absurd e1 (by decide +kernel)
  | imp => intro d hd; simp at hd; rw [hd]; exact s _
  | as_ => intro d hd; simp at hd; rcases hd with rfl | rfl <;> exact s _
  | from_ => intro d hd; simp at hd; rcases hd with rfl | rfl | rfl <;> exact s _
  | star => intro d hd; simp at hd; rw [hd]; exact s _
  | forget => intro d hd; simp at hd; rw [hd]; exact s _
  | stop => intro d hd; cases hd
theorem pl_len {w : Str} {r : List PyData} (h : Pl w r) : r.length ≤ 3 := by
  cases h <;> simp
section
variable {K : Kit} {env : Vm.Env} {st : Store} {w : Str} {r : List PyData}
/-- " ".join([word, ".".join(statement[1])] + list(statement[2:])) -/
theorem is_lineRN {a c0 : Ex} (h : Pl w r) (e : isRN w = true) (ha : Is K a env st (.p (.tuple (.str w :: r)))) (hw : Is K c0 env st (.p (.str w))) :
    Is K (.mth .join (.con (.str " ")) (.cons (.bin .add (.lst 0 (.cons c0 (.cons (.mth .join (.con (.str ".")) (.cons (.idx a (.con (.int 1))) .nil)) .nil))) (.bi .list (.cons (.slc a (.cons (.con (.int 2)) .nil) .nil) .nil))) .nil)) env st (.p (.str (line w r))) := by
  obtain ⟨ps, ys, hr, h8, h6⟩ := pl_rn h e
  have sz := parts_sz h
  have pl := pl_len h
  subst hr
  have pe : parts w (.tuple (ps.map .str) :: ys.map .str) = w :: Txt.join dot ps :: ys := by
    unfold parts
    rw [if_pos e]
    show w :: Txt.join dot ((ps.map PyData.str).map strOfD) :: (ys.map PyData.str).map strOfD = _
    rw [strs_back, strs_back]
  unfold line
  rw [pe] at sz ⊢
  refine is_join (ys := w :: Txt.join dot ps :: ys) ?_ sz
  have j := is_joinT (K := K) (sep := dot) (is_tup 1 ha (d := .tuple (ps.map .str)) rfl) (joinSz_of (m := 8) h8 (by rw [dot_len]; have : SZ = 16777216 := rfl; omega))
  exact is_addL (is_lst2 hw j) (is_listT (is_slcT 2 ha)) (by simp only [List.length_cons, List.length_map] at pl; simp; have : SZ = 16777216 := rfl; omega)
theorem is_linePub {a c0 : Ex} (h : Pl w r) (e : isRN w = false) (e2 : (w == ("public" : Str)) = true) (ha : Is K a env st (.p (.tuple (.str w :: r)))) (hw : Is K c0 env st (.p (.str w))) :
    Is K (.mth .join (.con (.str " ")) (.cons (.bin .add (.lst 0 (.cons c0 .nil)) (.bi .list (.cons (.idx a (.con (.int 1))) .nil))) .nil)) env st (.p (.str (line w r))) := by
  obtain ⟨ps, hr⟩ := pl_pub h e2
  have sz := parts_sz h
  have pl := (parts_ok h).len
  subst hr
  have pe : parts w [.tuple (ps.map .str)] = w :: ps := by
    unfold parts
    rw [if_neg (by rw [e]; decide), if_pos e2]
    show w :: (ps.map PyData.str).map strOfD = _
    rw [strs_back]
  unfold line
  rw [pe] at sz pl ⊢
  refine is_join (ys := w :: ps) ?_ sz
  exact is_addL (is_lst1 hw) (is_listT (is_tup 1 ha (d := .tuple (ps.map .str)) rfl)) (by simp at pl ⊢; have : SZ = 16777216 := rfl; omega)
theorem is_lineO {a : Ex} {i : Nat} (h : Pl w r) (e : isRN w = false) (e2 : (w == ("public" : Str)) = false) (ha : Is K a env st (.p (.tuple (.str w :: r)))) (hi : i < env.length) :
    Is K (.mth .join (.con (.str " ")) (.cons (.lc 0 [i] (.cons a .nil) .nil (.bi .str (.cons (.var i) .nil))) .nil)) env st (.p (.str (line w r))) := by
  have sz := parts_sz h
  have ho := pl_other h e e2
  have pl := pl_len h
  have pe : parts w r = w :: r.map strOfD := by
    unfold parts
    rw [if_neg (by rw [e]; decide), if_neg (by rw [e2]; decide)]
  unfold line
  rw [pe] at sz ⊢
  refine is_join (ys := w :: r.map strOfD) ?_ sz
  refine Is.of (x_map (f := fun d => .str (strOfD d)) (.str w :: r) (i_tup ha) (fun d hd => is_strD (is_var (by simp [hi])) ?_) (by simp; have : SZ = 16777216 := rfl; omega) ⟨?_, rfl⟩)
  · rcases List.mem_cons.mp hd with rfl | hd
    · exact .inl ⟨_, rfl⟩
    · exact ho d hd
  · congr 2
    simp [strOfD]
end
theorem r_stm_plain {n : Nat} {w : Str} {r : List PyData} {st : Store} (wf : WFs st) (h : Pl w r) : runF pg (n + 1) i_statement_rows [.p (.tuple (.str w :: r))] st = .ok (.p (.list [.str (line w r)])) st := by
  refine f_is rfl rfl rfl wf ?_
  show wpF (execS (kitOf pg n) pg.fields b_statement_rows [some (.p (.tuple (.str w :: r))), none, none] st) _
  unfold b_statement_rows
  refine s_seq (asg_is (is_tup 0 (is_var rfl) rfl) ?_)
  show wpF (execS (kitOf pg n) pg.fields _ [some (.p (.tuple (.str w :: r))), some (.p (.str w)), none] st) _
  refine s_seq (if_is (t := w == ("try" : Str)) (is_eqS (is_var rfl) is_con) (fun e => by rw [pl_try h] at e; cases e) fun _ => s_skip ?_)
  refine s_seq (if_is (t := isRN w) (by rw [← any_rn]; exact is_inT (is_var rfl) (is_tupE (ds := [.str "read", .str "need"]) (ev2 is_con is_con) (by show 2 ≤ SZ; decide)) rfl rfl) (fun e => ret_is (is_lst1 (is_lineRN h e (is_var rfl) (is_var rfl))) ⟨by simp, .inl rfl⟩) fun e => s_skip ?_)
  refine s_seq (if_is (t := w == ("public" : Str)) (is_eqS (is_var rfl) is_con) (fun e2 => ret_is (is_lst1 (is_linePub h e e2 (is_var rfl) (is_var rfl))) ⟨by simp, .inl rfl⟩) fun e2 => s_skip ?_)
  exact ret_is (is_lst1 (is_lineO h e e2 (is_var rfl) (by show 2 < 3; decide))) ⟨by simp, .inl rfl⟩
end K05
end

section
/-! words, names, statements: what the defs hand out. -/
namespace K05
open PySem Vm
local macro_rules | `(tactic| walk_at "x1") => `(tactic| first
  | (with_reducible refine x_var ?_ ?_; exact rfl) | (with_reducible refine x_con ?_) | (with_reducible refine x_glo ?_ ?_; exact rfl) | (with_reducible refine x_bin ?_) | (with_reducible refine x_and ?_) | (with_reducible refine x_or ?_) | (with_reducible refine x_not ?_)
  | (with_reducible refine x_ite ?_) | (with_reducible refine x_cmp ?_) | (with_reducible refine x_chn ?_) | (with_reducible refine x_tup ?_) | (with_reducible refine x_lst ?_) | (with_reducible refine x_idx ?_) | (with_reducible refine x_slc ?_) | (with_reducible refine x_call ?_) | (with_reducible refine x_callk ?_)
  | (with_reducible refine x_bi ?_) | (with_reducible refine x_mth ?_) | (with_reducible refine x_isi ?_) | (with_reducible refine l_nil ?_) | (with_reducible refine l_cons ?_) | (with_reducible refine o_nil ?_) | (with_reducible refine o_some ?_) | (with_reducible refine t_nil ?_) | (with_reducible refine t_some ?_)
  | (with_reducible refine s_skip ?_) | (with_reducible refine s_seq ?_) | (with_reducible refine s_asg ?_) | (with_reducible refine s_asgT ?_) | (with_reducible refine s_ex ?_) | (with_reducible refine s_ret ?_) | (with_reducible refine s_ife ?_)
  | (with_reducible refine wpO_of ?_ ?_; exact rfl) | (with_reducible refine wpO_of (isi_p ?_) ?_; exact rfl))
local macro_rules | `(tactic| walk_at "xs") => `(tactic| repeat (walk_at "x1"; try dsimp only))
local macro_rules | `(tactic| walk_at "is") => `(tactic| (refine Is.of ?_; walk_at "xs"; exact ⟨rfl, rfl⟩))




theorem gs_rows {x : PyData} {a : Nat} (g : Gs x a) : (rowS x).length ≤ 3 * a := by
  cases g with
  | pl hp => rw [rowS_line (pl_try hp)]; show 1 ≤ 3; decide
  | @tr p q x y h1 h2 =>
    rw [rowS_try]
    have k1 := rows_len (dp p) p (Nat.le_refl _) x h1
    have k2 := rows_len (dp q) q (Nat.le_refl _) y h2
    simp only [List.length_cons, List.length_append, List.length_nil]
    omega
theorem r_body_rows : ∀ (m : Nat) (d : PyData), dp d ≤ m → ∀ k, k ≤ 40 → cnt d = some k → ∀ (n : Nat), m + 3 ≤ n → ∀ (st : Store), WFs st → runF pg n i_body_rows [.p d] st = .ok (.p (.list ((rows d).map .str))) st := by
  intro m
  induction m using Nat.strongRecOn with
  | _ m ih =>
    intro d hd k hk h n hn st wf
    obtain ⟨ds, rfl, hc⟩ := cnt_tup h
    obtain ⟨n, rfl⟩ : ∃ k, n = k + 1 := ⟨n - 1, by omega⟩
    have sz : SZ = 16777216 := rfl
    refine f_is rfl rfl rfl wf ?_
    show wpF (execS (kitOf pg n) pg.fields b_body_rows [some (.p (.tuple ds)), none, none] st) _
    unfold b_body_rows
    refine s_seq (s_asg (x_lst (l_nil ⟨by decide, ?_⟩)))
    show wpF (execS (kitOf pg n) pg.fields _ [some (.p (.tuple ds)), some (.r st.length), none] (st ++ [.pl []])) _
    refine s_seq (s_for (fun rest e s => ∃ done todo, ds = done ++ todo ∧ rest = todo.map Val.p ∧ s = st ++ [.pl ((rowsL done).map .str)] ∧ ∃ a, e = [some (.p (.tuple ds)), some (.r st.length), a]) ((i_tup (is_var rfl)).any fun items s h => ⟨[], ds, rfl, h.1, by rw [h.2, rowsL]; rfl, none, rfl⟩) ?_ ?_)
    · rintro v vs e s ⟨done, todo, hds, hv, rfl, a, rfl⟩
      cases todo with
      | nil => cases hv
      | cons x todo =>
        cases hv
        have hx : x ∈ ds := by rw [hds]; simp
        have dx := dp_in hx
        obtain ⟨k1, k2, c1, c2, ck⟩ := cntL_split (by rw [hds] at hc; exact hc)
        obtain ⟨kx, k3, gx, c3, ck2⟩ := cntL_cons c2
        have wf' : WFs (st ++ [Cell.pl ((rowsL done).map .str)]) := wf.app rfl
        have gl := gs_rows gx
        have dl := rows_len (dp (.tuple done)) (.tuple done) (Nat.le_refl _) k1 (by rw [cnt]; exact c1)
        rw [rows] at dl
        refine wpO_of rfl ?_
        show wpF (execS (kitOf pg n) pg.fields _ [some (.p (.tuple ds)), some (.r st.length), some (.p x)] (st ++ [.pl ((rowsL done).map .str)])) _
        have key : runF pg n i_statement_rows [.p x] (st ++ [Cell.pl ((rowsL done).map .str)]) = .ok (.p (.list ((rowS x).map .str))) (st ++ [Cell.pl ((rowsL done).map .str)]) := by
          obtain ⟨n', rfl⟩ : ∃ k, n = k + 1 := ⟨n - 1, by omega⟩
          cases gx with
          | pl hp => rw [rowS_line (pl_try hp)]; exact r_stm_plain wf' hp
          | @tr p q kp kq h1 h2 =>
            have dpp := dp_parts (w := .str "try") (a := p) (b := q)
            rw [rowS_try] at gl ⊢
            have s1 := ih (dp p) (by omega) p (Nat.le_refl _) kp (by omega) h1 n' (by omega) _ wf'
            have s2 := ih (dp q) (by omega) q (Nat.le_refl _) kq (by omega) h2 n' (by omega) _ wf'
            refine f_is rfl rfl rfl wf' ?_
            show wpF (execS (kitOf pg n') pg.fields b_statement_rows [some (.p (.tuple [.str "try", p, q])), none, none] (st ++ [Cell.pl ((rowsL done).map .str)])) _
            unfold b_statement_rows
            refine s_seq (asg_is (is_tup 0 (is_var rfl) rfl) ?_)
            show wpF (execS (kitOf pg n') pg.fields _ [some (.p (.tuple [.str "try", p, q])), some (.p (.str "try")), none] (st ++ [Cell.pl ((rowsL done).map .str)])) _
            simp only [List.length_cons, List.length_append, List.length_nil] at gl
            refine s_seq (if_is (t := ("try" : Str) == ("try" : Str)) (is_eqS (is_var rfl) is_con) (fun e => ret_is (v := .p (.list (((([PyData.str "try"] ++ (rows p).map .str) ++ [PyData.str "except"]) ++ (rows q).map .str) ++ [PyData.str "end"]))) ?_ ⟨List.take_length, .inl ?_⟩) fun e => absurd e (by decide +kernel))
            · refine is_addL (is_addL (is_addL (is_addL (is_lst1 is_con) (is_1 (is_tup 1 (is_var rfl) rfl) s1) ?_) (is_lst1 is_con) ?_) (is_1 (is_tup 2 (is_var rfl) rfl) s2) ?_) (is_lst1 is_con) ?_
              all_goals (simp only [List.length_append, List.length_map, List.length_cons, List.length_nil]; omega)
            · simp
        have h0 : (st ++ [Cell.pl ((rowsL done).map .str)])[st.length]? = some (.pl ((rowsL done).map .str)) := by simp
        refine s_ex (x_extend rfl h0 (is_1 (is_var rfl) key) (by simp only [List.length_map]; omega) ⟨done ++ [x], todo, by rw [hds]; simp, rfl, ?_, _, rfl⟩)
        rw [List.set_append_right _ _ (Nat.le_refl _), rowsL_app, rowsL, rowsL]
        simp
    · rintro e s ⟨done, todo, hds, hv, rfl, a, rfl⟩
      have : todo = [] := by simpa using hv.symm
      subst this
      rw [List.append_nil] at hds
      subst hds
      dsimp only
      refine ret_is (is_var rfl) ⟨by simp, .inr ⟨st.length, rfl, Nat.le_refl _, ?_⟩⟩
      rw [rows]
      exact see_rd (c := .pl ((rowsL ds).map .str)) (by simp) rfl
/-! ### lines and texts -/
theorem eol_len : eol.length = 1 := by decide +kernel
theorem line_len {w : Str} {r : List PyData} (h : Pl w r) : (line w r).length ≤ 2665 := by
  have p := parts_ok h
  unfold line
  rw [TL.join_eq]
  have := join_len (b := spc) (m := 64) (ps := parts w r) fun q hq => (p.sh q hq).2
  rw [spc_len] at this
  have := p.len
  have : (parts w r).length * (64 + 1) ≤ 41 * 65 := Nat.mul_le_mul_right _ p.len
  omega
theorem rows_all (Pp : Str → Prop) (h0 : ∀ w r, Pl w r → Pp (line w r)) (h1 : Pp "try") (h2 : Pp "except") (h3 : Pp "end") : ∀ (m : Nat) (d : PyData), dp d ≤ m → ∀ k, cnt d = some k → ∀ s ∈ rows d, Pp s := by
  intro m
  induction m with
  | zero =>
    intro d hd k h
    obtain ⟨ds, rfl, _⟩ := cnt_tup h
    rw [dp] at hd
    omega
  | succ m ih =>
    intro d hd k h
    obtain ⟨ds, rfl, h⟩ := cnt_tup h
    rw [dp] at hd
    rw [rows]
    have key : ∀ (ds : List PyData), dpL ds ≤ m → ∀ k, cntL ds = some k → ∀ s ∈ rowsL ds, Pp s := by
      intro ds
      induction ds with
      | nil => intro _ k _ s hs; rw [rowsL] at hs; cases hs
      | cons x xs ihx =>
        intro hd k h s hs
        rw [dpL] at hd
        obtain ⟨a, b, g, h2', rfl⟩ := cntL_cons h
        rw [rowsL] at hs
        rcases List.mem_append.mp hs with hs | hs
        · cases g with
          | pl hp =>
            rw [rowS_line (pl_try hp)] at hs
            simp at hs
            rw [hs]
            exact h0 _ _ hp
          | @tr p q x y c1 c2 =>
            rw [rowS_try] at hs
            have d1 := dp_parts (w := .str "try") (a := p) (b := q)
            rcases List.mem_cons.mp hs with rfl | hs
            · exact h1
            rcases List.mem_append.mp hs with hs | hs
            · exact ih p (by omega) x c1 s hs
            rcases List.mem_cons.mp hs with rfl | hs
            · exact h2
            rcases List.mem_append.mp hs with hs | hs
            · exact ih q (by omega) y c2 s hs
            · simp at hs
              rw [hs]
              exact h3
        · exact ihx (by omega) b h2' s hs
    exact key ds (by omega) k h
theorem rows_short {d : PyData} {k : Nat} (h : cnt d = some k) : ∀ s ∈ rows d, s.length ≤ 2665 := rows_all (fun s => s.length ≤ 2665) (fun w r => line_len) (by decide +kernel) (by decide +kernel) (by decide +kernel) (dp d) d (Nat.le_refl _) k h
def textOf (rs : List Str) : Str := Txt.join "" (rs.map fun s => s ++ eol)
theorem app_len (a b : Str) : (a ++ b).length = a.length + b.length := by simp only [Str.length, Str.cps_append, Array.size_append]
theorem is_addS {K : Kit} {a b : Ex} {env : Vm.Env} {st : Store} {x y : Str} (h1 : Is K a env st (.p (.str x))) (h2 : Is K b env st (.p (.str y))) (h : x.length + y.length ≤ SZ) : Is K (.bin .add a b) env st (.p (.str (x ++ y))) := Is.of (x_bin (h1.wp (h2.wp (wpO_of (a := .p (.str (x ++ y))) (by
  show (if x.length + y.length ≤ SZ then some (PyData.str (x ++ y)) else none).map Val.p = _
  rw [if_pos h]
  rfl) ⟨rfl, rfl⟩))))
/-- "".join([row + "\n" for row in rows]) -/
theorem is_text {K : Kit} {a : Ex} {i : Nat} {env : Vm.Env} {st : Store} {rs : List Str} (h1 : Is K a env st (.p (.list (rs.map .str)))) (hi : i < env.length) (hl : rs.length ≤ 120) (hs : ∀ s ∈ rs, s.length ≤ 2665) :
    Is K (.mth .join (.con (.str "")) (.cons (.lc 0 [i] (.cons a .nil) .nil (.bin .add (.var i) (.con (.str "\n")))) .nil)) env st (.p (.str (textOf rs))) := by
  have sz : SZ = 16777216 := rfl
  unfold textOf
  refine is_join (ys := rs.map fun s => s ++ eol) (Is.of (x_map (f := fun d => .str (strOfD d ++ eol)) (rs.map .str) (i_lst h1) (fun d hd => ?_) (by simp; omega) ⟨?_, rfl⟩)) (joinSz_of (m := 2666) (fun p hp => ?_) ?_)
  · obtain ⟨s, hs', rfl⟩ := List.mem_map.mp hd
    show Is K _ _ st (.p (.str (s ++ eol)))
    exact is_addS (is_var (by simp [hi])) is_con (by have := hs s hs'; have := eol_len; show s.length + eol.length ≤ SZ; omega)
  · simp [strOfD]
  · obtain ⟨s, hs', rfl⟩ := List.mem_map.mp hp
    rw [app_len, eol_len]
    have := hs s hs'
    omega
  · rw [List.length_map]
    have : ("" : Str).length = 0 := by decide +kernel
    rw [this]
    omega
theorem r_body_text {m n k : Nat} {d : PyData} {st : Store} (wf : WFs st) (hd : dp d ≤ m) (hk : k ≤ 40) (h : cnt d = some k) (hn : m + 4 ≤ n) : runF pg n i_body_text [.p d] st = .ok (.p (.str (textOf (rows d)))) st := by
  obtain ⟨n, rfl⟩ : ∃ k, n = k + 1 := ⟨n - 1, by omega⟩
  refine f_is rfl rfl rfl wf ?_
  show wpF (execS (kitOf pg n) pg.fields b_body_text [some (.p d), none] st) _
  unfold b_body_text
  have rl := rows_len m d hd k h
  exact ret_is (is_text (is_1 (is_var rfl) (r_body_rows m d hd k hk h n (by omega) st wf)) (by show 1 < 2; decide) (by omega) (rows_short h)) ⟨by simp, .inl rfl⟩
theorem is_addL2 {K : Kit} {a b : Ex} {env : Vm.Env} {st : Store} {v : Val} {xs ys : List PyData} (h1 : Is K a env st v) (hv : see st v = .p (.list xs)) (h2 : Is K b env st (.p (.list ys))) (h : xs.length + ys.length ≤ SZ) : Is K (.bin .add a b) env st (.p (.list (xs ++ ys))) := Is.of (x_bin (h1.wp (h2.wp (wpO_of (a := .p (.list (xs ++ ys))) (by
  rw [hv]
  show (binD .add (.list xs) (.list ys)).map Val.p = _
  unfold binD
  simp only
  rw [if_pos h]
  rfl) ⟨rfl, rfl⟩))))
def isPl : Cell → Bool
  | .pl _ => true
  | _ => false
theorem pl_wf {st ext : Store} (w : WFs st) (h : ext.all isPl = true) : WFs (st ++ ext) := w.app (by
  rw [List.all_eq_true] at h ⊢
  intro c hc
  have := h c hc
  cases c <;> first | rfl | cases this)
theorem l_rows : ∀ (m : Nat) (d : PyData), dp d ≤ m → ∀ k, k ≤ 40 → cnt d = some k → ∀ (n : Nat), m + 3 ≤ n → ∀ (st : Store), WFs st → runF pg n i__law_rows [.p d] st = .ok (.p (.list ((rows d).map .str))) st := by
  intro m
  induction m using Nat.strongRecOn with
  | _ m ih =>
    intro d hd k hk h n hn st wf
    obtain ⟨ds, rfl, hc⟩ := cnt_tup h
    obtain ⟨n, rfl⟩ : ∃ k, n = k + 1 := ⟨n - 1, by omega⟩
    have sz : SZ = 16777216 := rfl
    refine f_is rfl rfl rfl wf ?_
    show wpF (execS (kitOf pg n) pg.fields b__law_rows [some (.p (.tuple ds)), none, none, none, none, none] st) _
    unfold b__law_rows
    refine s_seq (s_asg (x_lst (l_nil ⟨by decide, ?_⟩)))
    show wpF (execS (kitOf pg n) pg.fields _ [some (.p (.tuple ds)), some (.r st.length), none, none, none, none] (st ++ [.pl []])) _
    refine s_seq (s_for (fun rest e s => ∃ done todo, ds = done ++ todo ∧ rest = todo.map Val.p ∧ ∃ (ext : Store) (j : Nat), s = st ++ ext ∧ ext.all isPl = true ∧ st.length ≤ j ∧ s[j]? = some (.pl ((rowsL done).map .str)) ∧ ∃ a b c f, e = [some (.p (.tuple ds)), some (.r j), a, b, c, f]) ((i_tup (is_var rfl)).any fun items s h => ⟨[], ds, rfl, h.1, [.pl []], st.length, h.2, rfl, Nat.le_refl _, by rw [h.2, rowsL]; simp, none, none, none, none, rfl⟩) ?_ ?_)
    · rintro v vs e s ⟨done, todo, hds, hv, ext, j, rfl, he, hj, hs, a, b, c, f, rfl⟩
      cases todo with
      | nil => cases hv
      | cons x todo =>
        cases hv
        have hx : x ∈ ds := by rw [hds]; simp
        have dx := dp_in hx
        obtain ⟨k1, k2, c1, c2, ck⟩ := cntL_split (by rw [hds] at hc; exact hc)
        obtain ⟨kx, k3, gx, c3, ck2⟩ := cntL_cons c2
        have wf' : WFs (st ++ ext) := pl_wf wf he
        have gl := gs_rows gx
        have dl := rows_len (dp (.tuple done)) (.tuple done) (Nat.le_refl _) k1 (by rw [cnt]; exact c1)
        rw [rows] at dl
        have jl : j < (st ++ ext).length := by
          rcases Nat.lt_or_ge j (st ++ ext).length with q | q
          · exact q
          · rw [List.getElem?_eq_none q] at hs; cases hs
        refine wpO_of rfl ?_
        show wpF (execS (kitOf pg n) pg.fields _ [some (.p (.tuple ds)), some (.r j), some (.p x), b, c, f] (st ++ ext)) _
        cases gx with
        | @pl w r hp =>
          rw [rowS_line (pl_try hp)] at gl
          have row : Is (kitOf pg n) (.idx (.var 2) (.con (.int 0))) [some (.p (.tuple ds)), some (.r j), some (.p (.tuple (.str w :: r))), b, c, f] (st ++ ext) (.p (.str w)) := is_tup 0 (is_var rfl) rfl
          have fin : ∀ {x : Ex}, Is (kitOf pg n) x [some (.p (.tuple ds)), some (.r j), some (.p (.tuple (.str w :: r))), b, c, f] (st ++ ext) (.p (.str (line w r))) → ∀ {D : FK}, (D.nx = fun e s => ∃ done todo', ds = done ++ todo' ∧ todo.map Val.p = todo'.map Val.p ∧ ∃ (ext : Store) (j : Nat), s = st ++ ext ∧ ext.all isPl = true ∧ st.length ≤ j ∧ s[j]? = some (.pl ((rowsL done).map .str)) ∧ ∃ a b c f, e = [some (.p (.tuple ds)), some (.r j), a, b, c, f]) →
              wpF (execS (kitOf pg n) pg.fields (.ex (.mth .append (.var 1) (.cons x .nil))) [some (.p (.tuple ds)), some (.r j), some (.p (.tuple (.str w :: r))), b, c, f] (st ++ ext)) D := fun {x} hx {D} hD => by
            refine s_ex (x_append rfl hs hx (by simp only [List.length_map]; omega) ?_)
            rw [hD]
            refine ⟨done ++ [.tuple (.str w :: r)], todo, by rw [hds]; simp, rfl, ext.set (j - st.length) (.pl ((rowsL done).map .str ++ [.str (line w r)])), j, ?_, ?_, hj, ?_, _, _, _, _, rfl⟩
            · rw [List.set_append_right _ _ hj]
            · rw [List.all_eq_true] at he ⊢
              intro c' hc'
              rcases List.mem_or_eq_of_mem_set hc' with q | rfl
              · exact he c' q
              · rfl
            · rw [List.getElem?_set_self jl, rowsL_app, rowsL, rowsL, rowS_line (pl_try hp)]
              simp
          refine if_is (t := w == ("try" : Str)) (is_eqS row is_con) (fun e => by rw [pl_try hp] at e; cases e) fun _ => ?_
          refine if_is (t := isRN w) (by rw [← any_rn]; exact is_inT row (is_tupE (ds := [.str "read", .str "need"]) (ev2 is_con is_con) (by show 2 ≤ SZ; decide)) rfl rfl) (fun e => fin (is_lineRN hp e (is_var rfl) row) rfl) fun e => ?_
          refine if_is (t := w == ("public" : Str)) (is_eqS row is_con) (fun e2 => ?_) fun e2 => fin (is_lineO hp e e2 (is_var rfl) (by show 5 < 6; decide)) rfl
          have ew := eq_of_beq e2
          refine fin (is_linePub hp e e2 (is_var rfl) ?_) rfl
          rw [ew]
          exact is_con
        | @tr p q kp kq h1 h2 =>
          have dpp := dp_parts (w := .str "try") (a := p) (b := q)
          rw [rowS_try] at gl
          simp only [List.length_cons, List.length_append, List.length_nil] at gl
          have s1 := ih (dp p) (by omega) p (Nat.le_refl _) kp (by omega) h1 n (by omega) _ wf'
          have s2 := ih (dp q) (by omega) q (Nat.le_refl _) kq (by omega) h2 n (by omega) _ wf'
          refine if_is (t := ("try" : Str) == ("try" : Str)) (is_eqS (is_tup 0 (is_var rfl) rfl) is_con) (fun e => ?_) fun e => absurd e (by decide +kernel)
          refine s_seq (s_asgT (Is.wp (is_tupE (ds := [.list ((rows p).map .str), .list ((rows q).map .str)]) (ev2 (is_1 (is_tup 1 (is_var rfl) rfl) s1) (is_1 (is_tup 2 (is_var rfl) rfl) s2)) (by show 2 ≤ SZ; decide)) (wpO_of rfl ?_)))
          show wpF (execS (kitOf pg n) pg.fields _ [some (.p (.tuple ds)), some (.r j), some (.p (.tuple [.str "try", p, q])), some (.p (.list ((rows p).map .str))), some (.p (.list ((rows q).map .str))), f] (st ++ ext)) _
          refine s_asg (x_cat ((is_addL (is_addL (is_addL (is_addL2 (xs := (rowsL done).map .str) (is_var rfl) (see_rd hs rfl) (is_lst1 is_con) ?_) (is_var rfl) ?_) (is_lst1 is_con) ?_) (is_var rfl) ?_).wp ((is_lst1 is_con).wp ⟨_, _, rfl, rfl, ?_, ?_⟩)))
          all_goals try (simp only [List.length_append, List.length_map, List.length_cons, List.length_nil]; omega)
          have e5 : (((((((rowsL done).map PyData.str ++ [PyData.str "try"]) ++ (rows p).map PyData.str) ++ [PyData.str "except"]) ++ (rows q).map PyData.str).map Val.p) ++ [PyData.str "end"].map Val.p) = ((rowsL (done ++ [.tuple [.str "try", p, q]])).map PyData.str).map Val.p := by
            rw [rowsL_app, rowsL, rowsL, rowS_try]
            simp
          rw [e5]
          unfold Vm.alloc
          simp only [unPs_map]
          refine wp_ok ⟨done ++ [.tuple [.str "try", p, q]], todo, by rw [hds]; simp, rfl, ext ++ [.pl ((rowsL (done ++ [.tuple [.str "try", p, q]])).map .str)], (st ++ ext).length, by simp, by rw [List.all_append, he]; rfl, by simp, by simp, _, _, _, _, rfl⟩
    · rintro e s ⟨done, todo, hds, hv, ext, j, rfl, he, hj, hs, a, b, c, f, rfl⟩
      have : todo = [] := by simpa using hv.symm
      subst this
      rw [List.append_nil] at hds
      subst hds
      dsimp only
      refine ret_is (is_var rfl) ⟨by simp, .inr ⟨j, rfl, hj, ?_⟩⟩
      rw [rows]
      exact see_rd hs rfl
end K05
end

section
/-! words, names, statements: what the defs hand out. -/
namespace K05
open PySem Vm
local macro_rules | `(tactic| walk_at "x1") => `(tactic| first
  | (with_reducible refine x_var ?_ ?_; exact rfl) | (with_reducible refine x_con ?_) | (with_reducible refine x_glo ?_ ?_; exact rfl) | (with_reducible refine x_bin ?_) | (with_reducible refine x_and ?_) | (with_reducible refine x_or ?_) | (with_reducible refine x_not ?_)
  | (with_reducible refine x_ite ?_) | (with_reducible refine x_cmp ?_) | (with_reducible refine x_chn ?_) | (with_reducible refine x_tup ?_) | (with_reducible refine x_lst ?_) | (with_reducible refine x_idx ?_) | (with_reducible refine x_slc ?_) | (with_reducible refine x_call ?_) | (with_reducible refine x_callk ?_)
  | (with_reducible refine x_bi ?_) | (with_reducible refine x_mth ?_) | (with_reducible refine x_isi ?_) | (with_reducible refine l_nil ?_) | (with_reducible refine l_cons ?_) | (with_reducible refine o_nil ?_) | (with_reducible refine o_some ?_) | (with_reducible refine t_nil ?_) | (with_reducible refine t_some ?_)
  | (with_reducible refine s_skip ?_) | (with_reducible refine s_seq ?_) | (with_reducible refine s_asg ?_) | (with_reducible refine s_asgT ?_) | (with_reducible refine s_ex ?_) | (with_reducible refine s_ret ?_) | (with_reducible refine s_ife ?_)
  | (with_reducible refine wpO_of ?_ ?_; exact rfl) | (with_reducible refine wpO_of (isi_p ?_) ?_; exact rfl))
local macro_rules | `(tactic| walk_at "xs") => `(tactic| repeat (walk_at "x1"; try dsimp only))
local macro_rules | `(tactic| walk_at "is") => `(tactic| (refine Is.of ?_; walk_at "xs"; exact ⟨rfl, rfl⟩))




theorem cut_to1 (s : Str) : (L2.cutS s none (some 1)).cps.toList = s.cps.toList.take 1 := by
  unfold L2.cutS
  have e : HT.sIx s.length s.length (some (1 : Int)) = min 1 s.length := HT.sIx_nat s.length s.length 1
  rw [HT.sIx_none, e]
  have hn : s.length = s.cps.toList.length := by simp [Str.length]
  rw [hn]
  generalize s.cps.toList = l
  simp only
  cases l <;> simp
theorem cut_from1 (s : Str) : (L2.cutS s (some 1) none).cps.toList = s.cps.toList.drop 1 := cut_end s 1
abbrev digs : Str := "0123456789"
theorem digs_tl : digs.cps.toList = [48, 49, 50, 51, 52, 53, 54, 55, 56, 57] := by decide +kernel
theorem digs_in {c : Nat} (h : 48 ≤ c ∧ c ≤ 57) : c ∈ digs.cps.toList := by
  rw [digs_tl]
  have : c = 48 ∨ c = 49 ∨ c = 50 ∨ c = 51 ∨ c = 52 ∨ c = 53 ∨ c = 54 ∨ c = 55 ∨ c = 56 ∨ c = 57 := by omega
  rcases this with rfl | rfl | rfl | rfl | rfl | rfl | rfl | rfl | rfl | rfl <;> decide
/-- what the text of a number is like -/
theorem int_text {i : Int} (h : absI (.int i) < 1000000000000000000000000000000) : PySem.intText? (Str.ofString (toString i)) = some i ∧
    ((Str.ofString (toString i)).cps.toList.take 1 = [45] → ∃ n, n < 10 ^ 30 ∧ (Str.ofString (toString i)).cps.toList.drop 1 = TL.numL n) ∧ ((Str.ofString (toString i)).cps.toList.take 1 ≠ [45] → ∃ n, n < 10 ^ 30 ∧ (Str.ofString (toString i)).cps.toList = TL.numL n) := by
  rcases int_cases h with ⟨n, rfl, hn⟩ | ⟨m, rfl, hm⟩
  · have e : (Str.ofString (toString ((n : Nat) : Int))).cps.toList = TL.numL n := TL.tl_num n
    refine ⟨TL.int_num (by have := TL.numL_len (by decide) hn; omega), fun q => ?_, fun _ => ⟨n, hn, e⟩⟩
    exfalso
    rw [e] at q
    have : 45 ∈ TL.numL n := by
      have : 45 ∈ (TL.numL n).take 1 := by rw [q]; simp
      exact List.mem_of_mem_take this
    exact absurd this (TL.numL_free (by omega))
  · have e := tl_neg m
    refine ⟨?_, fun _ => ⟨m + 1, hm, by rw [e]; rfl⟩, fun q => absurd (by rw [e]; rfl) q⟩
    have l := congrArg List.length e
    have := TL.numL_len (by decide) hm
    simp only [Array.length_toList, List.length_cons] at l
    have k := PySem.intText_neg e (TL.numL_digits _) (TL.numL_ne _) (by unfold Str.length; omega)
    rw [k, TL.numL_val]
    rfl
theorem r_parsed_integer {n : Nat} {i : Int} {st : Store} (wf : WFs st) (h : absI (.int i) < 1000000000000000000000000000000) : runF pg (n + 1) i_parsed_integer [.p (.str (Str.ofString (toString i)))] st = .ok (.p (.int i)) st := by
  obtain ⟨h1, h2, h3⟩ := int_text h
  have hl := (int_short h).2
  have ls := log_small h
  have sz : SZ = 16777216 := rfl
  generalize hs : Str.ofString (toString i) = s at *
  refine f_is rfl rfl rfl wf ?_
  show wpF (execS (kitOf pg n) pg.fields b_parsed_integer [some (.p (.str s)), none, none, none] st) _
  unfold b_parsed_integer
  have hdig : ∀ z : Str, (∃ n, n < 10 ^ 30 ∧ z.cps.toList = TL.numL n) → z.length ≤ 30 ∧ 1 ≤ z.length ∧ ∀ c ∈ z.cps.toList, c ∈ digs.cps.toList := by
    rintro z ⟨n, hn, e⟩
    have l := congrArg List.length e
    simp only [Array.length_toList] at l
    have k1 := TL.numL_len (by decide) hn
    have k2 : 0 < (TL.numL n).length := List.length_pos_iff.mpr (TL.numL_ne n)
    refine ⟨by unfold Str.length; omega, by unfold Str.length; omega, fun c hc => digs_in ?_⟩
    rw [e] at hc
    exact TL.numL_digits n c hc
  have hm : ("-" : Str).cps.toList = [45] := by decide +kernel
  have cond : Is (kitOf pg n) (.cmp .eq (.slc (.var 0) .nil (.cons (.con (.int 1)) .nil)) (.con (.str "-"))) [some (.p (.str s)), none, none, none] st (.p (.bool (L2.cutS s none (some 1) == ("-" : Str)))) := is_eqS (is_cut (is_var rfl) (eq_of (o_nil ⟨rfl, rfl⟩)) (eq_of (o_some (x_con ⟨1, rfl, rfl, rfl⟩))) (by omega)) is_con
  have step : ∀ z : Str, (∃ n, n < 10 ^ 30 ∧ z.cps.toList = TL.numL n) → ∀ {D : FK}, (∀ v, v = Val.p (.int i) → D.rt v st) → wpF (execS (kitOf pg n) pg.fields (.seq (.ife (.cons (.or (.not (.chn .le .le (.con (.int 1)) (.bi .len (.cons (.var 1) .nil)) (.glo c_MOST_DIGITS))) (.not (.bi .all (.cons (.lc 0 [2] (.cons (.var 1) .nil) .nil (.cmp .isin (.var 2) (.con (.str "0123456789")))) .nil)))) .nil) (.ret (.con .none)) .skip) (.seq (.asg (.n 3) (.bi .int (.cons (.var 0) .nil))) (.ret (.ite (.cmp .eq (.bi .str (.cons (.var 3) .nil)) (.var 0)) (.var 3) (.con .none))))) [some (.p (.str s)), some (.p (.str z)), none, none] st) D := by
    intro z hz D hD
    obtain ⟨d1, d2, d3⟩ := hdig z hz
    have a1 : decide ((1 : Int) ≤ (z.length : Int)) = true := decide_eq_true (by omega)
    have a2 : decide ((z.length : Int) ≤ 30) = true := decide_eq_true (by omega)
    have c1 : Is (kitOf pg n) (.chn .le .le (.con (.int 1)) (.bi .len (.cons (.var 1) .nil)) (.glo c_MOST_DIGITS)) [some (.p (.str s)), some (.p (.str z)), none, none] st (.p (.bool (true && true))) := by
      have := is_chnI (K := kitOf pg n) (env := [some (.p (.str s)), some (.p (.str z)), none, none]) (st := st) (o := .le) (o' := .le) (i := 1) (k := 30) is_con (len_str (is_var (i := 1) rfl) (by omega)) (is_glo (g := c_MOST_DIGITS) rfl) rfl rfl
      rwa [a1, a2] at this
    have c2 : Is (kitOf pg n) (.bi .all (.cons (.lc 0 [2] (.cons (.var 1) .nil) .nil (.cmp .isin (.var 2) (.con (.str "0123456789")))) .nil)) [some (.p (.str s)), some (.p (.str z)), none, none] st (.p (.bool ((charsOf z).all fun d => match inD d (.str digs) with | some b => b | none => false))) := by
      refine is_all (i_str (is_var rfl)) (fun d hd => ?_) (by unfold charsOf; rw [List.length_map, Array.length_toList]; show z.length ≤ SZ; omega)
      obtain ⟨c, hc, rfl⟩ := List.mem_map.mp hd
      refine Is.of (x_cmp (x_var rfl (x_con (wpO_of (a := decide (c ∈ digs.cps.toList)) (in_sign c digs) ⟨?_, rfl⟩))))
      simp only [in_sign]
    have c3 : ((charsOf z).all fun d => match inD d (.str digs) with | some b => b | none => false) = true := by
      rw [List.all_eq_true]
      intro d hd
      obtain ⟨c, hc, rfl⟩ := List.mem_map.mp hd
      simp only [in_sign]
      exact decide_eq_true (d3 c hc)
    rw [c3] at c2
    refine s_seq (if_is (t := false || false) (is_or (is_not c1) fun _ => is_not c2) (fun e => by cases e) fun _ => s_skip (s_seq (asg_is (Is.of (x_bi (l_cons (x_var rfl (l_nil (wpO_of (a := .p (.int i)) ?_ ⟨rfl, rfl⟩)))))) ?_)))
    · show (if s.length ≤ 640 then (PySem.intText? s).map PyData.int else none).map Val.p = _
      rw [if_pos (by omega), h1]
      rfl
    · show wpF (execS (kitOf pg n) pg.fields _ [some (.p (.str s)), some (.p (.str z)), none, some (.p (.int i))] st) _
      refine s_ret (x_ite ((is_eqS (x := s) (y := s) ?_ (is_var rfl)).wp (wpO_of (a := (s == s)) rfl (wpB_mk (fun _ => x_var rfl (hD _ rfl)) fun e => by rw [beq_self_eq_true] at e; cases e))))
      have := is_strD (K := kitOf pg n) (env := [some (.p (.str s)), some (.p (.str z)), none, some (.p (.int i))]) (st := st) (d := .int i) (is_var (i := 3) rfl) (.inr ⟨i, rfl, ls⟩)
      have e : strOfD (.int i) = s := hs
      rwa [e] at this
  refine s_seq (s_asg (x_ite (cond.wp (wpO_of (a := (L2.cutS s none (some 1) == ("-" : Str))) rfl (wpB_mk (fun e => ?_) fun e => ?_)))))
  · have e1 : s.cps.toList.take 1 = [45] := by rw [← cut_to1, eq_of_beq e, hm]
    obtain ⟨n', hn, e2⟩ := h2 e1
    refine (is_cut (i := some 1) (j := none) (is_var (i := 0) rfl) (eq_of (o_some (x_con ⟨1, rfl, rfl, rfl⟩))) (eq_of (o_nil ⟨rfl, rfl⟩)) (by omega)).wp ?_
    exact step _ ⟨n', hn, by rw [cut_from1, e2]⟩ fun v hv => ⟨by simp, .inl hv⟩
  · have e1 : s.cps.toList.take 1 ≠ [45] := fun q => by
      have : L2.cutS s none (some 1) = ("-" : Str) := str_ext (by rw [cut_to1, q, hm])
      rw [this, beq_self_eq_true] at e
      cases e
    refine x_var rfl ?_
    exact step _ (h3 e1) fun v hv => ⟨by simp, .inl hv⟩
theorem spc_tl : TL.tl spc = [32] := by decide +kernel
theorem no_c {p : Str} (h : okc p) (c : Nat) (hc : c < 45) : c ∉ TL.tl p := fun hm => by
  have := h c hm
  omega
theorem split_line {w : Str} {r : List PyData} (h : Pl w r) : Txt.split (line w r) spc = parts w r := by
  have p := parts_ok h
  unfold line
  refine TL.split_join spc_tl (by decide +kernel) (fun e => by have := p.one; rw [e] at this; exact absurd this (by decide)) fun q hq => no_c (p.sh q hq).1 32 (by decide)
theorem split_path {ps : List Str} (h : ps.all wordB = true) (h1 : 1 ≤ ps.length) : Txt.split (Txt.join dot ps) dot = ps := by
  refine TL.split_join dot_tl (by decide +kernel) (fun e => by rw [e] at h1; exact absurd h1 (by decide)) fun q hq hm => ?_
  have := List.all_eq_true.mp h q hq
  unfold wordB at this
  simp only [Bool.and_eq_true, decide_eq_true_eq, List.all_eq_true] at this
  exact absurd (this.2 46 hm) (by decide)
theorem line_ne {w : Str} {r : List PyData} (h : Pl w r) {x : Str} (hx : 32 ∉ TL.tl x) (hw : w ≠ x) : (line w r == x) = false := by
  cases e : (line w r == x) with
  | false => rfl
  | true =>
    have e1 := eq_of_beq e
    have e2 := split_line h
    have e3 : Txt.split (Txt.join spc [x]) spc = [x] := TL.split_join spc_tl (by decide +kernel) (by simp) (fun p hp => by simp at hp; rw [hp]; exact hx)
    have e4 : Txt.join spc [x] = x := by rw [TL.join_eq]; rfl
    rw [e4, ← e1, e2] at e3
    have hd := (parts_ok h).hd
    rw [e3] at hd
    simp at hd
    exact absurd hd.symm (by rw [e1] at *; exact fun q => hw (by rw [q]))
end K05
end

section
/-! a row read back. -/
namespace K05
open PySem Vm
local macro_rules | `(tactic| walk_at "x1") => `(tactic| first
  | (with_reducible refine x_var ?_ ?_; exact rfl) | (with_reducible refine x_con ?_) | (with_reducible refine x_glo ?_ ?_; exact rfl) | (with_reducible refine x_bin ?_) | (with_reducible refine x_and ?_) | (with_reducible refine x_or ?_) | (with_reducible refine x_not ?_)
  | (with_reducible refine x_ite ?_) | (with_reducible refine x_cmp ?_) | (with_reducible refine x_chn ?_) | (with_reducible refine x_tup ?_) | (with_reducible refine x_lst ?_) | (with_reducible refine x_idx ?_) | (with_reducible refine x_slc ?_) | (with_reducible refine x_call ?_) | (with_reducible refine x_callk ?_)
  | (with_reducible refine x_bi ?_) | (with_reducible refine x_mth ?_) | (with_reducible refine x_isi ?_) | (with_reducible refine l_nil ?_) | (with_reducible refine l_cons ?_) | (with_reducible refine o_nil ?_) | (with_reducible refine o_some ?_) | (with_reducible refine t_nil ?_) | (with_reducible refine t_some ?_)
  | (with_reducible refine s_skip ?_) | (with_reducible refine s_seq ?_) | (with_reducible refine s_asg ?_) | (with_reducible refine s_asgT ?_) | (with_reducible refine s_ex ?_) | (with_reducible refine s_ret ?_) | (with_reducible refine s_ife ?_)
  | (with_reducible refine wpO_of ?_ ?_; exact rfl) | (with_reducible refine wpO_of (isi_p ?_) ?_; exact rfl))
local macro_rules | `(tactic| walk_at "xs") => `(tactic| repeat (walk_at "x1"; try dsimp only))
local macro_rules | `(tactic| walk_at "is") => `(tactic| (refine Is.of ?_; walk_at "xs"; exact ⟨rfl, rfl⟩))





theorem is_addT {K : Kit} {a b : Ex} {env : Vm.Env} {st : Store} {xs ys : List PyData} (h1 : Is K a env st (.p (.tuple xs))) (h2 : Is K b env st (.p (.tuple ys))) (h : xs.length + ys.length ≤ SZ) : Is K (.bin .add a b) env st (.p (.tuple (xs ++ ys))) := Is.of (x_bin (h1.wp (h2.wp (wpO_of (a := .p (.tuple (xs ++ ys))) (by
  show (binD .add (.tuple xs) (.tuple ys)).map Val.p = _
  unfold binD
  simp only
  rw [if_pos h]
  rfl) ⟨rfl, rfl⟩))))
theorem is_tup2 {K : Kit} {a b : Ex} {env : Vm.Env} {st : Store} {x y : PyData} (h1 : Is K a env st (.p x)) (h2 : Is K b env st (.p y)) : Is K (.tup (.cons a (.cons b .nil))) env st (.p (.tuple [x, y])) := is_tupE (ds := [x, y]) (ev2 h1 h2) (by show 2 ≤ SZ; decide)
theorem is_tup3 {K : Kit} {a b c : Ex} {env : Vm.Env} {st : Store} {x y z : PyData} (h1 : Is K a env st (.p x)) (h2 : Is K b env st (.p y)) (h3 : Is K c env st (.p z)) : Is K (.tup (.cons a (.cons b (.cons c .nil)))) env st (.p (.tuple [x, y, z])) := is_tupE (ds := [x, y, z]) (ev3 h1 h2 h3) (by show 3 ≤ SZ; decide)
theorem row_cases {w : Str} {r : List PyData} (h : Pl w r) :
    (∃ x i, w = ("let" : Str) ∧ r = [.str x, .int i] ∧ absI (.int i) < 1000000000000000000000000000000 ∧ parts w r = [w, x, Str.ofString (toString i)]) ∨
    (∃ ps ys : List Str, (w == ("let" : Str)) = false ∧ isRN w = true ∧ r = .tuple (ps.map .str) :: ys.map .str ∧ ps.all wordB = true ∧ 1 ≤ ps.length ∧ ps.length ≤ 6 ∧ ys.length ≤ 1 ∧ parts w r = w :: Txt.join dot ps :: ys) ∨
    (∃ ps : List Str, (w == ("let" : Str)) = false ∧ isRN w = false ∧ (w == ("public" : Str)) = true ∧ r = [.tuple (ps.map .str)] ∧ parts w r = w :: ps) ∨
    (∃ ps : List Str, (w == ("let" : Str)) = false ∧ isRN w = false ∧ (w == ("public" : Str)) = false ∧ r = ps.map .str ∧ parts w r = w :: ps) := by
  cases h with
  | @let_ x i h1 h2 => exact .inl ⟨x, i, rfl, rfl, h2, by kernel_rfl⟩
  | @imp x h1 => exact .inr (.inr (.inr ⟨[x], by decide +kernel, by decide +kernel, by decide +kernel, rfl, by kernel_rfl⟩))
  | @as_ x y h1 h2 => exact .inr (.inr (.inr ⟨[x, y], by decide +kernel, by decide +kernel, by decide +kernel, rfl, by kernel_rfl⟩))
  | @from_ x y z h1 h2 h3 => exact .inr (.inr (.inr ⟨[x, y, z], by decide +kernel, by decide +kernel, by decide +kernel, rfl, by kernel_rfl⟩))
  | @star x h1 => exact .inr (.inr (.inr ⟨[x], by decide +kernel, by decide +kernel, by decide +kernel, rfl, by kernel_rfl⟩))
  | @pub ps h0 h1 h =>
    refine .inr (.inr (.inl ⟨ps, by decide +kernel, by decide +kernel, by decide +kernel, rfl, ?_⟩))
    have e : parts "public" [.tuple (ps.map .str)] = ("public" : Str) :: (ps.map PyData.str).map strOfD := by kernel_rfl
    rw [strs_back] at e
    exact e
  | @read ps y h0 h1 h h2 =>
    refine .inr (.inl ⟨ps, [y], by decide +kernel, by decide +kernel, rfl, h, h0, h1, Nat.le_refl 1, ?_⟩)
    have e : parts "read" [.tuple (ps.map .str), .str y] = (["read", Txt.join dot ((ps.map PyData.str).map strOfD), y] : List Str) := by kernel_rfl
    rw [strs_back] at e
    exact e
  | @need ps h0 h1 h =>
    refine .inr (.inl ⟨ps, [], by decide +kernel, by decide +kernel, rfl, h, h0, h1, by decide, ?_⟩)
    have e : parts "need" [.tuple (ps.map .str)] = (["need", Txt.join dot ((ps.map PyData.str).map strOfD)] : List Str) := by kernel_rfl
    rw [strs_back] at e
    exact e
  | @forget x h1 => exact .inr (.inr (.inr ⟨[x], by decide +kernel, by decide +kernel, by decide +kernel, rfl, by kernel_rfl⟩))
  | stop => exact .inr (.inr (.inr ⟨[], by decide +kernel, by decide +kernel, by decide +kernel, rfl, by kernel_rfl⟩))
theorem pl_tame {w : Str} {r : List PyData} (h : Pl w r) : ∀ d ∈ r, tame d = true := by
  have ts : ∀ {x : Str} {m : Nat}, short m x → m ≤ 4096 → tame (.str x) = true := fun h l => by
    rw [tame, decide_eq_true_eq]
    have := h.2
    omega
  have tw : ∀ {x : Str}, wordB x = true → tame (.str x) = true := fun h => ts (word_short h) (by decide)
  have tp : ∀ {ps : List Str}, ps.all wordB = true → ps.length ≤ 40 → tame (.tuple (ps.map .str)) = true := fun h l => tame_mk (by rw [List.length_map]; omega) fun d hd => by
    obtain ⟨s, hs, rfl⟩ := List.mem_map.mp hd
    exact tw (List.all_eq_true.mp h s hs)
  have two : ∀ {a : PyData} {l : List PyData}, tame a = true → (∀ p ∈ l, tame p = true) → ∀ p ∈ a :: l, tame p = true := fun ha hl p hp => by
    rcases List.mem_cons.mp hp with rfl | hp
    · exact ha
    · exact hl p hp
  have nil : ∀ p ∈ ([] : List PyData), tame p = true := fun p hp => by cases hp
  cases h with
  | let_ h1 h2 => exact two (tw h1) (two (by rw [tame] <;> (intros; contradiction)) nil)
  | imp h1 => exact two (ts (name_short h1) (by decide)) nil
  | as_ h1 h2 => exact two (ts (ref_short h1) (by decide)) (two (tw h2) nil)
  | from_ h1 h2 h3 => exact two (ts (ref_short h1) (by decide)) (two (tw h2) (two (tw h3) nil))
  | star h1 => exact two (ts (ref_short h1) (by decide)) nil
  | pub h0 h1 h => exact two (tp h h1) nil
  | read h0 h1 h h2 => exact two (tp h (by omega)) (two (tw h2) nil)
  | need h0 h1 h => exact two (tp h (by omega)) nil
  | forget h1 => exact two (tw h1) nil
  | stop => exact nil
theorem r_parsed_row {n : Nat} {w : Str} {r : List PyData} {st : Store} (wf : WFs st) (hp : plainB w r = true) : runF pg (n + 6) i_parsed_row [.p (.str (line w r))] st = .ok (.p (.tuple (.str w :: r))) st := by
  have h := pl_of hp
  have sz : SZ = 16777216 := rfl
  refine f_is rfl rfl rfl wf ?_
  show wpF (execS (kitOf pg (n + 5)) pg.fields b_parsed_row [some (.p (.str (line w r))), none, none, none] st) _
  unfold b_parsed_row
  have e1 := isD_split (K := kitOf pg (n + 5)) (env := [some (.p (.str (line w r))), none, none, none]) (st := st) (b := spc) (is_var (i := 0) rfl) (by rw [spc_len]; decide) (by have := line_len h; omega)
  rw [split_line h] at e1
  refine s_seq (asg_is e1 (s_seq ?_))
  have hd := (parts_ok h).hd
  refine asg_is (v := .p (.str w)) (is_list 0 (is_var (i := 1) rfl) (by rw [List.getElem?_map, hd]; rfl)) (s_seq ?_)
  refine asg_is (v := .p (.tuple ((parts w r).map .str))) (is_tupL (is_var (i := 1) rfl)) (s_seq ?_)
  show wpF (execS (kitOf pg (n + 5)) pg.fields _ [some (.p (.str (line w r))), some (.p (.list ((parts w r).map .str))), some (.p (.str w)), some (.p (.tuple ((parts w r).map .str)))] st) _
  have fin : ∀ x, x = Val.p (.tuple (.str w :: r)) → wpF (execS (kitOf pg (n + 5)) pg.fields (.ret (.ite (.call i_is_plain_statement (.cons (.var 3) .nil)) (.var 3) (.con .none))) [some (.p (.str (line w r))), some (.p (.list ((parts w r).map .str))), some (.p (.str w)), some x] st) { nx := fun _ s => s.take st.length = st ∧ PyData.tuple (.str w :: r) = .none, rt := fun v s => s.take st.length = st ∧ (v = .p (.tuple (.str w :: r)) ∨ ∃ k, v = .r k ∧ st.length ≤ k ∧ see s v = .p (.tuple (.str w :: r))) } := by
    intro x hx
    subst hx
    have c := is_1 (a := .var 3) (env := [some (.p (.str (line w r))), some (.p (.list ((parts w r).map .str))), some (.p (.str w)), some (.p (.tuple (.str w :: r)))]) (is_var rfl) (r_is_plain (n := n) wf (pl_tame h) (by have := pl_len h; omega))
    rw [hp] at c
    exact s_ret (x_ite (c.wp (wpO_of (a := true) rfl (wpB_t (x_var rfl ⟨by simp, .inl rfl⟩)))))
  have V1 : ∀ {z : Option Val}, Is (kitOf pg (n + 5)) (.var 1) [some (.p (.str (line w r))), some (.p (.list ((parts w r).map .str))), some (.p (.str w)), z] st (.p (.list ((parts w r).map .str))) := is_var rfl
  have V2 : ∀ {z : Option Val}, Is (kitOf pg (n + 5)) (.var 2) [some (.p (.str (line w r))), some (.p (.list ((parts w r).map .str))), some (.p (.str w)), z] st (.p (.str w)) := is_var rfl
  have c1 := fun z => is_and (t1 := (w == ("let" : Str))) (t2 := (((parts w r).map PyData.str).length : Int) == 3) (is_eqS (V2 (z := z)) is_con) fun _ => is_eqI (len_list (V1 (z := z))) is_con
  have c2 := fun z => is_and (t1 := isRN w) (t2 := decide ((1 : Int) < ((parts w r).map PyData.str).length)) (by
    have := is_inT (ds := [.str "read", .str "need"]) (V2 (z := z)) (is_tup2 is_con is_con) rfl rfl
    rwa [any_rn] at this) fun _ => is_cmpI (o := .gt) (len_list (V1 (z := z))) (is_con (d := .int 1)) rfl
  have c3 := fun z => is_eqS (V2 (z := z)) (is_con (d := .str "public"))
  rcases row_cases h with ⟨x, i, hw, hr, hi, hq⟩ | ⟨ps, ys, n1, n2, hr, hps, l1, l6, ly, hq⟩ | ⟨ps, n1, n2, n3, hr, hq⟩ | ⟨ps, n1, n2, n3, hr, hq⟩
  · refine if_is (c1 _) (fun _ => asg_is (v := .p (.tuple [.str w, .str x, .int i])) ?_ (fin _ (by rw [hr]))) fun z => by rw [hq, hw] at z; simp at z
    refine is_tup3 V2 (is_list 1 V1 (by rw [hq]; rfl)) ?_
    exact is_1 (is_list 2 V1 (by rw [hq]; rfl)) (r_parsed_integer wf hi)
  · refine if_is (c1 _) (fun z => by rw [n1] at z; cases z) fun _ => if_is (c2 _) (fun _ => asg_is (v := .p (.tuple ([.str w, .tuple (ps.map .str)] ++ ys.map .str))) ?_ (fin _ (by rw [hr]; rfl))) fun z => by
      rw [n2, hq, Bool.true_and, decide_eq_false_iff_not] at z
      exact absurd (by simp only [List.map_cons, List.length_cons]; omega) z
    have hs := isD_split (K := kitOf pg (n + 5)) (b := dot) (is_list 1 (V1 (z := some (.p (.tuple ((parts w r).map .str))))) (d := .str (Txt.join dot ps)) (by rw [hq]; rfl)) (by rw [dot_len]; decide) (by have := (path_short hps l6).2; omega)
    rw [split_path hps l1] at hs
    have hy : ((parts w r).map PyData.str).drop 2 = ys.map .str := by rw [hq]; rfl
    have hs2 := is_slcL 2 (V1 (z := some (.p (.tuple ((parts w r).map .str)))))
    rw [hy] at hs2
    exact is_addT (is_tup2 V2 (is_tupL hs)) (is_tupL hs2) (by simp only [List.length_map, List.length_cons, List.length_nil]; omega)
  · refine if_is (c1 _) (fun z => by rw [n1] at z; cases z) fun _ => if_is (c2 _) (fun z => by rw [n2] at z; cases z) fun _ => if_is (c3 _) (fun _ => asg_is (v := .p (.tuple [.str w, .tuple (ps.map .str)])) ?_ (fin _ (by rw [hr]))) fun z => by rw [n3] at z; cases z
    have hy : ((parts w r).map PyData.str).drop 1 = ps.map .str := by rw [hq]; rfl
    have hs2 := is_slcL 1 (V1 (z := some (.p (.tuple ((parts w r).map .str)))))
    rw [hy] at hs2
    exact is_tup2 V2 (is_tupL hs2)
  · refine if_is (c1 _) (fun z => by rw [n1] at z; cases z) fun _ => if_is (c2 _) (fun z => by rw [n2] at z; cases z) fun _ => if_is (c3 _) (fun z => by rw [n3] at z; cases z) fun _ => s_skip (fin _ (by rw [hq, hr]; rfl))
end K05
end

section
/-! the stack of open parts. -/
namespace K05
open PySem Vm
local macro_rules | `(tactic| walk_at "x1") => `(tactic| first
  | (with_reducible refine x_var ?_ ?_; exact rfl) | (with_reducible refine x_con ?_) | (with_reducible refine x_glo ?_ ?_; exact rfl) | (with_reducible refine x_bin ?_) | (with_reducible refine x_and ?_) | (with_reducible refine x_or ?_) | (with_reducible refine x_not ?_)
  | (with_reducible refine x_ite ?_) | (with_reducible refine x_cmp ?_) | (with_reducible refine x_chn ?_) | (with_reducible refine x_tup ?_) | (with_reducible refine x_lst ?_) | (with_reducible refine x_idx ?_) | (with_reducible refine x_slc ?_) | (with_reducible refine x_call ?_) | (with_reducible refine x_callk ?_)
  | (with_reducible refine x_bi ?_) | (with_reducible refine x_mth ?_) | (with_reducible refine x_isi ?_) | (with_reducible refine l_nil ?_) | (with_reducible refine l_cons ?_) | (with_reducible refine o_nil ?_) | (with_reducible refine o_some ?_) | (with_reducible refine t_nil ?_) | (with_reducible refine t_some ?_)
  | (with_reducible refine s_skip ?_) | (with_reducible refine s_seq ?_) | (with_reducible refine s_asg ?_) | (with_reducible refine s_asgT ?_) | (with_reducible refine s_ex ?_) | (with_reducible refine s_ret ?_) | (with_reducible refine s_ife ?_)
  | (with_reducible refine wpO_of ?_ ?_; exact rfl) | (with_reducible refine wpO_of (isi_p ?_) ?_; exact rfl))
local macro_rules | `(tactic| walk_at "xs") => `(tactic| repeat (walk_at "x1"; try dsimp only))
local macro_rules | `(tactic| walk_at "is") => `(tactic| (refine Is.of ?_; walk_at "xs"; exact ⟨rfl, rfl⟩))





def prT : Sm := (.seq (.asg (.n 2) (.bin .add (.var 2) (.bi .int (.cons (.cmp .notin (.var 4) (.tup (.cons (.con (.str "except")) (.cons (.con (.str "end")) .nil)))) .nil)))) (.ife (.cons (.cmp .gt (.var 2) (.glo c_MOST_STATEMENTS)) .nil) .bad .skip))
def prM : Sm := (.ife (.cons (.cmp .isin (.var 4) (.tup (.cons (.con (.str "try")) (.cons (.con (.str "except")) .nil)))) .nil) (.seq (.ife (.cons (.and (.cmp .eq (.var 4) (.con (.str "except"))) (.cmp .ne (.var 5) (.con (.str "try")))) .nil) .bad .skip) (.ex (.mth .append (.var 1) (.cons (.tup (.cons (.var 4) (.cons (.lst 1 .nil) .nil))) .nil)))) (.ife (.cons (.cmp .eq (.var 4) (.con (.str "end"))) .nil) (.seq (.ife (.cons (.cmp .ne (.var 5) (.con (.str "except"))) .nil) .bad .skip) (.seq (.asg (.n 7) (.idx (.idx (.var 1) (.neg (.con (.int 2)))) (.con (.int 1)))) (.seq (.asg (.n 1) (.cut 2 (.var 1) .nil (.cons (.neg (.con (.int 2))) .nil))) (.ex (.mth .append (.idx (.idx (.var 1) (.neg (.con (.int 1)))) (.con (.int 1))) (.cons (.tup (.cons (.con (.str "try")) (.cons (.bi .tuple (.cons (.var 7) .nil)) (.cons (.bi .tuple (.cons (.var 6) .nil)) .nil)))) .nil)))))) (.seq (.asg (.n 8) (.call i_parsed_row (.cons (.var 4) .nil))) (.seq (.ife (.cons (.cmp .is (.var 8) (.con .none)) .nil) .bad .skip) (.ex (.mth .append (.var 6) (.cons (.var 8) .nil)))))))
def prB : Sm := .seq (.asg (.t [5, 6]) (.idx (.var 1) (.neg (.con (.int 1))))) (.seq prM prT)
theorem pr_eq : b_parse_rows = .seq (.asg (.n 1) (.lst 2 (.cons (.tup (.cons (.con (.str "body")) (.cons (.lst 1 .nil) .nil))) .nil))) (.seq (.asg (.n 2) (.con (.int 0))) (.seq (.for_ [3, 4] (.enu (.var 0)) prB) (.seq (.ife (.cons (.cmp .gt (.bi .len (.cons (.var 1) .nil)) (.con (.int 1))) .nil) .bad .skip) (.ret (.bi .tuple (.cons (.idx (.idx (.var 1) (.con (.int 0))) (.con (.int 1))) .nil)))))) := by kernel_rfl
structure Fr where
  kind : Str
  k : Nat
  ds : List PyData
def fv (q : Fr) : Val := .t [.p (.str q.kind), .r q.k]
structure PSt (st : Store) (stk : List Fr) (kc : Nat) (s : Store) : Prop where
  take : s.take st.length = st
  wf : WFs s
  ge : st.length ≤ kc
  cell : s[kc]? = some (.ml (stk.map fv))
  pl : ∀ q ∈ stk, st.length ≤ q.k ∧ s[q.k]? = some (.pl q.ds)
  nd : (stk.map (·.k)).Nodup
theorem WFs.set {s : Store} (w : WFs s) {k : Nat} {c : Cell} (h : cellBelow s.length c = true) : WFs (s.set k c) := by
  unfold WFs at *
  rw [List.all_eq_true] at *
  intro x hx
  rw [List.length_set]
  rcases List.mem_or_eq_of_mem_set hx with hx | rfl
  · exact w x hx
  · exact h
theorem lt_of_get {s : Store} {k : Nat} {c : Cell} (h : s[k]? = some c) : k < s.length := by
  rcases Nat.lt_or_ge k s.length with q | q
  · exact q
  · rw [List.getElem?_eq_none_iff.mpr q] at h; cases h
theorem below_fv {n : Nat} : ∀ {stk : List Fr}, (∀ q ∈ stk, q.k < n) → belowL n (stk.map fv) = true
  | [], _ => by rw [List.map_nil, belowL]
  | q :: stk, h => by
    rw [List.map_cons, belowL, below_fv fun p hp => h p (List.mem_cons_of_mem _ hp), Bool.and_true]
    unfold fv
    have := h q (List.mem_cons_self ..)
    simp [below, belowL, this]
variable {st s : Store} {stk : List Fr} {kc : Nat}
theorem PSt.ne (P : PSt st stk kc s) : ∀ q ∈ stk, q.k ≠ kc := fun q hq e => by
  have := (P.pl q hq).2
  rw [e, P.cell] at this
  cases this
theorem PSt.push (P : PSt st stk kc s) (kd : Str) : PSt st (stk ++ [⟨kd, s.length, []⟩]) kc ((s ++ [Cell.pl []]).set kc (Cell.ml (stk.map fv ++ [Val.t [.p (.str kd), .r s.length]]))) := by
  have hk := lt_of_get P.cell
  have hs := Nat.lt_of_le_of_lt P.ge hk
  have hb : ∀ q ∈ stk, q.k < s.length := fun q hq => lt_of_get (P.pl q hq).2
  refine ⟨?_, ?_, P.ge, ?_, ?_, ?_⟩
  · rw [List.take_set_of_le P.ge, List.take_append_of_le_length (by omega), P.take]
  · refine WFs.set (pl_wf P.wf rfl) ?_
    have : stk.map fv ++ [Val.t [.p (.str kd), .r s.length]] = (stk ++ [Fr.mk kd s.length []]).map fv := by simp [fv]
    rw [this]
    refine below_fv fun q hq => ?_
    rw [List.length_append]
    rcases List.mem_append.mp hq with hq | hq
    · have := hb q hq
      omega
    · rw [List.mem_singleton] at hq
      subst hq
      simp
  · rw [List.getElem?_set, if_pos rfl, if_pos (by rw [List.length_append]; omega)]
    simp [fv]
  · intro q hq
    rcases List.mem_append.mp hq with hq | hq
    · refine ⟨(P.pl q hq).1, ?_⟩
      rw [List.getElem?_set, if_neg (P.ne q hq).symm, List.getElem?_append_left (hb q hq)]
      exact (P.pl q hq).2
    · rw [List.mem_singleton] at hq
      subst hq
      refine ⟨by show st.length ≤ s.length; omega, ?_⟩
      rw [List.getElem?_set, if_neg (by show ¬kc = s.length; omega)]
      simp
  · rw [List.map_append, List.nodup_append]
    refine ⟨P.nd, by simp, ?_⟩
    intro a ha b hb2 e
    obtain ⟨q, hq, rfl⟩ := List.mem_map.mp ha
    simp at hb2
    have := hb q hq
    omega
theorem PSt.app {kd : Str} {k : Nat} {ds : List PyData} (P : PSt st (stk ++ [⟨kd, k, ds⟩]) kc s) (d : PyData) : PSt st (stk ++ [⟨kd, k, ds ++ [d]⟩]) kc (s.set k (.pl (ds ++ [d]))) := by
  have h0 := P.pl ⟨kd, k, ds⟩ (by simp)
  have hk : k < s.length := lt_of_get h0.2
  have hc := P.ne ⟨kd, k, ds⟩ (by simp)
  have nd := P.nd
  rw [List.map_append, List.nodup_append] at nd
  refine ⟨?_, WFs.set P.wf rfl, P.ge, ?_, ?_, ?_⟩
  · rw [List.take_set_of_le h0.1, P.take]
  · rw [List.getElem?_set, if_neg hc, P.cell]
    simp [fv]
  · intro q hq
    rcases List.mem_append.mp hq with hq | hq
    · refine ⟨(P.pl q (List.mem_append_left _ hq)).1, ?_⟩
      rw [List.getElem?_set, if_neg (fun e => nd.2.2 q.k (List.mem_map_of_mem hq) k (by simp) e.symm)]
      exact (P.pl q (List.mem_append_left _ hq)).2
    · rw [List.mem_singleton] at hq
      subst hq
      refine ⟨h0.1, ?_⟩
      rw [List.getElem?_set, if_pos rfl, if_pos hk]
  · have := P.nd
    rw [List.map_append] at this ⊢
    exact this
theorem PSt.cut {a b : Fr} (P : PSt st (stk ++ [a, b]) kc s) : PSt st stk s.length (s ++ [Cell.ml (stk.map fv)]) := by
  have hk := lt_of_get P.cell
  have hs := Nat.lt_of_le_of_lt P.ge hk
  have hb : ∀ q ∈ stk, q.k < s.length := fun q hq => lt_of_get (P.pl q (List.mem_append_left _ hq)).2
  refine ⟨?_, ?_, by omega, by simp, ?_, ?_⟩
  · rw [List.take_append_of_le_length (by omega), P.take]
  · refine P.wf.app ?_
    have : belowL (s.length + 1) (stk.map fv) = true := below_fv fun q hq => by have := hb q hq; omega
    show (cellBelow (s.length + 1) (.ml (stk.map fv)) && true) = true
    rw [Bool.and_true]
    exact this
  · intro q hq
    refine ⟨(P.pl q (List.mem_append_left _ hq)).1, ?_⟩
    rw [List.getElem?_append_left (hb q hq)]
    exact (P.pl q (List.mem_append_left _ hq)).2
  · have := P.nd
    rw [List.map_append, List.nodup_append] at this
    exact this.1
theorem at_last {α : Type} (xs : List α) (x : α) : L2.atI (xs ++ [x]) (-1) = some x := by
  unfold L2.atI L2.ixN
  rw [if_neg (by omega), if_pos (by simp only [List.length_append, List.length_cons, List.length_nil]; omega)]
  simp only [Option.bind_some]
  have : ((-1 : Int) + ((xs ++ [x]).length : Nat)).toNat = xs.length := by simp only [List.length_append, List.length_cons, List.length_nil]; omega
  rw [this]
  simp
theorem at_last2 {α : Type} (xs : List α) (x y : α) : L2.atI (xs ++ [x, y]) (-2) = some x := by
  unfold L2.atI L2.ixN
  rw [if_neg (by omega), if_pos (by simp only [List.length_append, List.length_cons, List.length_nil]; omega)]
  simp only [Option.bind_some]
  have : ((-2 : Int) + ((xs ++ [x, y]).length : Nat)).toNat = xs.length := by simp only [List.length_append, List.length_cons, List.length_nil]; omega
  rw [this]
  simp
theorem cut_last2 {α : Type} (xs : List α) (x y : α) : cutL (xs ++ [x, y]) none (some (-2)) = xs := by
  unfold cutL
  rw [HT.sIx_none]
  have : HT.sIx (xs ++ [x, y]).length (xs ++ [x, y]).length (some (-2)) = xs.length := by
    unfold HT.sIx
    simp only
    rw [if_pos (by omega)]
    simp only [List.length_append, List.length_cons, List.length_nil]
    omega
  rw [this]
  simp
theorem cut_last1 {α : Type} (xs : List α) (x : α) : cutL (xs ++ [x]) none (some (-1)) = xs := by
  unfold cutL
  rw [HT.sIx_none]
  have : HT.sIx (xs ++ [x]).length (xs ++ [x]).length (some (-1)) = xs.length := by
    unfold HT.sIx
    simp only
    rw [if_pos (by omega)]
    simp only [List.length_append, List.length_cons, List.length_nil]
    omega
  rw [this]
  simp
theorem see_ml {k : Nat} {vs : List Val} (h : s[k]? = some (.ml vs)) : see s (.r k) = .r k := by
  unfold see
  simp only [h, seeC]
theorem idx_ml {k : Nat} {vs : List Val} {i : Int} {v : Val} (h : s[k]? = some (.ml vs)) (h2 : L2.atI vs i = some v) : idxV s (.r k) (.p (.int i)) = some v := by
  unfold idxV
  rw [see_ml h]
  simp only [h]
  exact h2
theorem is_neg {K : Kit} {env : Vm.Env} {i : Int} : Is K (.neg (.con (.int i))) env st (.p (.int (-i))) := Is.of (x_neg (x_con ⟨i, rfl, rfl, rfl⟩))
theorem is_idxM {K : Kit} {a b : Ex} {env : Vm.Env} {k : Nat} {vs : List Val} {i : Int} {v : Val} (h1 : Is K a env s (.r k)) (h0 : Is K b env s (.p (.int i))) (h : s[k]? = some (.ml vs)) (h2 : L2.atI vs i = some v) : Is K (.idx a b) env s v := Is.of (x_idx (h1.wp (h0.wp (wpO_of (a := v) (idx_ml h h2) ⟨rfl, rfl⟩))))
theorem is_fv1 {K : Kit} {a : Ex} {env : Vm.Env} {q : Fr} (h1 : Is K a env s (fv q)) : Is K (.idx a (.con (.int 1))) env s (.r q.k) := Is.of (x_idx (h1.wp (x_con (wpO_of (a := .r q.k) rfl ⟨rfl, rfl⟩))))
theorem x_appR {K : Kit} {a es : Ex} {env : Vm.Env} {k : Nat} {ds : List PyData} {d : PyData} {Q : Val → Store → Prop} {E : EK} (he : Is K a env s (.r k)) (hk : s[k]? = some (.pl ds)) (h : Is K es env s (.p d)) (hl : ds.length < SZ) (q : Q (.p .none) (s.set k (.pl (ds ++ [d])))) : wpR (evalX K (.mth .append a (.cons es .nil)) env s) Q E := by
  refine x_mth (he.wp ⟨.list, ?_, rfl, l_cons (h.wp (l_nil ?_))⟩)
  · unfold mkind see
    simp only [hk, seeC]
  · unfold mtV
    simp only [hk, mtC]
    rw [if_pos hl]
    exact q
theorem is_tupR {K : Kit} {a : Ex} {env : Vm.Env} {k : Nat} {ds : List PyData} (h1 : Is K a env s (.r k)) (hk : s[k]? = some (.pl ds)) : Is K (.bi .tuple (.cons a .nil)) env s (.p (.tuple ds)) := Is.of (x_bi (l_cons (h1.wp (l_nil (wpO_of (a := .p (.tuple ds)) (by
  unfold biV seeM
  simp only [see_rd hk rfl]
  rfl) ⟨rfl, rfl⟩)))))
theorem is_neS {K : Kit} {a b : Ex} {env : Vm.Env} {st : Store} {x y : Str} (h1 : Is K a env st (.p (.str x))) (h2 : Is K b env st (.p (.str y))) : Is K (.cmp .ne a b) env st (.p (.bool (!(x == y)))) := Is.of (x_cmp (h1.wp (h2.wp (wpO_of (a := !(x == y)) (by
  show (eqD (.str x) (.str y)).map (!·) = _
  rw [show eqD (.str x) (.str y) = cmpD .eq (.str x) (.str y) from rfl, eq_strs]
  rfl) ⟨rfl, rfl⟩))))
theorem any2 (w a b : Str) : ([PyData.str a, .str b].any fun z => PyData.eqv z (.str w)) = (a == w || b == w) := by
  simp [eqv_strs]
def isTE (w : Str) : Bool := ("try" : Str) == w || ("except" : Str) == w
def isEE (w : Str) : Bool := ("except" : Str) == w || ("end" : Str) == w
def PE (rv : Val) (kc : Nat) (c : Nat) (e : Vm.Env) : Prop := ∃ x3 x4 x5 x6 x7 x8, e = [some rv, some (.r kc), some (.p (.int c)), x3, x4, x5, x6, x7, x8]
theorem pr_tail {n c : Nat} {rv : Val} {x3 x5 x6 x7 x8 : Option Val} {row : Str} {D : FK} (h : c + (if isEE row then 0 else 1) ≤ 40) (q : ∀ e, PE rv kc (c + if isEE row then 0 else 1) e → D.nx e s) :
    wpF (execS (kitOf pg n) pg.fields prT [some rv, some (.r kc), some (.p (.int c)), x3, some (.p (.str row)), x5, x6, x7, x8] s) D := by
  unfold prT
  have V4 : Is (kitOf pg n) (.var 4) [some rv, some (.r kc), some (.p (.int c)), x3, some (.p (.str row)), x5, x6, x7, x8] s (.p (.str row)) := is_var rfl
  have c1 := is_ninT (ds := [.str "except", .str "end"]) V4 (is_tup2 is_con is_con) rfl rfl
  rw [any2] at c1
  have c2 : Is (kitOf pg n) (.bi .int (.cons (.cmp .notin (.var 4) (.tup (.cons (.con (.str "except")) (.cons (.con (.str "end")) .nil)))) .nil)) [some rv, some (.r kc), some (.p (.int c)), x3, some (.p (.str row)), x5, x6, x7, x8] s (.p (.int (if (!isEE row) then 1 else 0))) := Is.of (x_bi (l_cons (c1.wp (l_nil (wpO_of rfl ⟨rfl, rfl⟩)))))
  have e1 : (c : Int) + (if (!isEE row) = true then 1 else 0) = ((c + if isEE row = true then 0 else 1 : Nat) : Int) := by
    cases isEE row <;> simp
  have c3 := is_add (is_var (i := 2) (v := .p (.int c)) rfl) c2
  rw [e1] at c3
  refine s_seq (asg_is c3 ?_)
  show wpF (execS (kitOf pg n) pg.fields _ [some rv, some (.r kc), some (.p (.int ((c + if isEE row then 0 else 1 : Nat) : Int))), x3, some (.p (.str row)), x5, x6, x7, x8] s) _
  refine if_is (is_cmpI (o := .gt) (is_var (i := 2) rfl) (is_glo (g := c_MOST_STATEMENTS) rfl) rfl) (fun z => ?_) fun _ => s_skip (q _ ⟨_, _, _, _, _, _, rfl⟩)
  exact absurd (of_decide_eq_true z) (by omega)
end K05
end

section
/-! the rows read back. -/
namespace K05
open PySem Vm
local macro_rules | `(tactic| walk_at "x1") => `(tactic| first
  | (with_reducible refine x_var ?_ ?_; exact rfl) | (with_reducible refine x_con ?_) | (with_reducible refine x_glo ?_ ?_; exact rfl) | (with_reducible refine x_bin ?_) | (with_reducible refine x_and ?_) | (with_reducible refine x_or ?_) | (with_reducible refine x_not ?_)
  | (with_reducible refine x_ite ?_) | (with_reducible refine x_cmp ?_) | (with_reducible refine x_chn ?_) | (with_reducible refine x_tup ?_) | (with_reducible refine x_lst ?_) | (with_reducible refine x_idx ?_) | (with_reducible refine x_slc ?_) | (with_reducible refine x_call ?_) | (with_reducible refine x_callk ?_)
  | (with_reducible refine x_bi ?_) | (with_reducible refine x_mth ?_) | (with_reducible refine x_isi ?_) | (with_reducible refine l_nil ?_) | (with_reducible refine l_cons ?_) | (with_reducible refine o_nil ?_) | (with_reducible refine o_some ?_) | (with_reducible refine t_nil ?_) | (with_reducible refine t_some ?_)
  | (with_reducible refine s_skip ?_) | (with_reducible refine s_seq ?_) | (with_reducible refine s_asg ?_) | (with_reducible refine s_asgT ?_) | (with_reducible refine s_ex ?_) | (with_reducible refine s_ret ?_) | (with_reducible refine s_ife ?_)
  | (with_reducible refine wpO_of ?_ ?_; exact rfl) | (with_reducible refine wpO_of (isi_p ?_) ?_; exact rfl))
local macro_rules | `(tactic| walk_at "xs") => `(tactic| repeat (walk_at "x1"; try dsimp only))
local macro_rules | `(tactic| walk_at "is") => `(tactic| (refine Is.of ?_; walk_at "xs"; exact ⟨rfl, rfl⟩))





abbrev rowV (i : Nat) (s : Str) : Val := .p (.tuple [.int (i : Int), .str s])
abbrev vs (rs : List Str) : List Val := (rs.map PyData.str).map .p
theorem enum_app : ∀ (xs ys : List Val) (i : Nat), enumV i (xs ++ ys) = enumV i xs ++ enumV (i + xs.length) ys
  | [], ys, i => by simp [enumV]
  | x :: xs, ys, i => by
    have ih := enum_app xs ys (i + 1)
    have e : i + (x :: xs).length = i + 1 + xs.length := by simp only [List.length_cons]; omega
    rw [e, List.cons_append]
    show mkT [.p (.int i), x] :: enumV (i + 1) (xs ++ ys) = (mkT [.p (.int i), x] :: enumV (i + 1) xs) ++ _
    rw [ih, List.cons_append]
theorem enum_cons (i : Nat) (s : Str) (rs : List Str) : enumV i (vs (s :: rs)) = rowV i s :: enumV (i + 1) (vs rs) := rfl
theorem vs_app (a b : List Str) : vs (a ++ b) = vs a ++ vs b := by simp [vs]
def turnR (n : Nat) : Val → Vm.Env → Store → Fl := fun v e s => match bindV s [3, 4] v e with
  | some e1 => execS (kitOf pg (n + 6)) pg.fields prB e1 s
  | none => .no
theorem turn_of {n : Nat} {v : Val} {e : Vm.Env} {s : Store} {D : FK} (h : wpO (bindV s [3, 4] v e) fun e1 => wpF (execS (kitOf pg (n + 6)) pg.fields prB e1 s) D) : wpF (turnR n v e s) D := by
  unfold turnR
  revert h
  cases bindV s [3, 4] v e with
  | none => exact fun h => h.elim
  | some e1 => exact fun h => h
theorem ne_line {w : Str} {r : List PyData} (h : Pl w r) : isTE (line w r) = false ∧ isEE (line w r) = false ∧ (line w r == ("end" : Str)) = false := by
  have wk := (parts_ok h).wk
  have e1 := line_ne h (x := "try") (by decide +kernel) wk.1
  have e2 := line_ne h (x := "except") (by decide +kernel) wk.2.1
  have e3 := line_ne h (x := "end") (by decide +kernel) wk.2.2
  have c : ∀ a b : Str, (a == b) = (b == a) := fun a b => by rw [Bool.eq_iff_iff, beq_iff_eq, beq_iff_eq]; exact eq_comm
  refine ⟨?_, ?_, e3⟩
  · unfold isTE
    rw [c, e1, c, e2]
    rfl
  · unfold isEE
    rw [c, e2, c, e3]
    rfl
section
variable {st s : Store} {stk : List Fr} {kc n c i k : Nat} {rv : Val} {kd w : Str} {r ds : List PyData} {D : FK} {e : Vm.Env}
theorem top_is {env : Vm.Env} {q : Fr} (P : PSt st (stk ++ [q]) kc s) (h : env[1]? = some (some (.r kc))) : Is (kitOf pg n) (.idx (.var 1) (.neg (.con (.int 1)))) env s (fv q) :=
  is_idxM (is_var h) is_neg P.cell (by rw [List.map_append]; exact at_last _ _)
theorem te_is {x0 x1 x2 x3 x5 x6 x7 x8 : Option Val} (row : Str) : Is (kitOf pg n) (.cmp .isin (.var 4) (.tup (.cons (.con (.str "try")) (.cons (.con (.str "except")) .nil)))) [x0, x1, x2, x3, some (.p (.str row)), x5, x6, x7, x8] s (.p (.bool (isTE row))) := by
  have c1 := is_inT (K := kitOf pg n) (st := s) (ds := [.str "try", .str "except"]) (is_var (i := 4) (env := [x0, x1, x2, x3, some (.p (.str row)), x5, x6, x7, x8]) rfl) (is_tup2 is_con is_con) rfl rfl
  rwa [any2] at c1
theorem step_plain (P : PSt st (stk ++ [⟨kd, k, ds⟩]) kc s) (he : PE rv kc c e) (hp : plainB w r = true) (hc : c + 1 ≤ 40) (hl : ds.length < 2000) (q : ∀ e1 s1, PE rv kc (c + 1) e1 → PSt st (stk ++ [⟨kd, k, ds ++ [.tuple (.str w :: r)]⟩]) kc s1 → D.nx e1 s1) :
    wpO (bindV s [3, 4] (rowV i (line w r)) e) fun e1 => wpF (execS (kitOf pg (n + 6)) pg.fields prB e1 s) D := by
  have sz : SZ = 16777216 := rfl
  obtain ⟨x3, x4, x5, x6, x7, x8, rfl⟩ := he
  obtain ⟨n1, n2, n3⟩ := ne_line (pl_of hp)
  refine wpO_of (a := [some rv, some (.r kc), some (.p (.int c)), some (.p (.int i)), some (.p (.str (line w r))), x5, x6, x7, x8]) rfl ?_
  unfold prB
  refine s_seq (s_asgT ((top_is P rfl).wp (wpO_of (a := [some rv, some (.r kc), some (.p (.int c)), some (.p (.int i)), some (.p (.str (line w r))), some (.p (.str kd)), some (.r k), x7, x8]) rfl ?_)))
  unfold prM
  refine s_seq (if_is (te_is _) (fun z => by rw [n1] at z; cases z) fun _ => if_is (is_eqS (is_var rfl) is_con) (fun z => by rw [n3] at z; cases z) fun _ => s_seq (asg_is (is_1 (is_var rfl) (r_parsed_row P.wf hp)) ?_))
  show wpF (execS (kitOf pg (n + 6)) pg.fields _ [some rv, some (.r kc), some (.p (.int c)), some (.p (.int i)), some (.p (.str (line w r))), some (.p (.str kd)), some (.r k), x7, some (.p (.tuple (.str w :: r)))] s) _
  refine s_seq (if_is (t := false) (Is.of (x_cmp (x_var rfl (x_con (wpO_of (a := false) rfl ⟨rfl, rfl⟩))))) (fun z => by cases z) fun _ => s_skip (s_ex (x_append rfl (P.pl ⟨kd, k, ds⟩ (by simp)).2 (is_var rfl) (by show ds.length < SZ; omega) ?_)))
  refine pr_tail (by rw [n2]; exact hc) fun e1 h1 => ?_
  rw [n2] at h1
  exact q _ _ h1 (P.app _)
theorem step_push {f : Fr} {row : Str} (P : PSt st (stk ++ [f]) kc s) (he : PE rv kc c e) (h1 : isTE row = true) (h2 : (row == ("except" : Str) && !(f.kind == ("try" : Str))) = false) (hc : c + (if isEE row then 0 else 1) ≤ 40) (hl : stk.length < 2000) (q : ∀ k e1 s1, PE rv kc (c + if isEE row then 0 else 1) e1 → PSt st (stk ++ [f] ++ [⟨row, k, []⟩]) kc s1 → D.nx e1 s1) :
    wpO (bindV s [3, 4] (rowV i row) e) fun e1 => wpF (execS (kitOf pg (n + 6)) pg.fields prB e1 s) D := by
  have sz : SZ = 16777216 := rfl
  obtain ⟨x3, x4, x5, x6, x7, x8, rfl⟩ := he
  refine wpO_of (a := [some rv, some (.r kc), some (.p (.int c)), some (.p (.int i)), some (.p (.str row)), x5, x6, x7, x8]) rfl ?_
  unfold prB
  refine s_seq (s_asgT ((top_is P rfl).wp (wpO_of (a := [some rv, some (.r kc), some (.p (.int c)), some (.p (.int i)), some (.p (.str row)), some (.p (.str f.kind)), some (.r f.k), x7, x8]) rfl ?_)))
  unfold prM
  have c2 : Is (kitOf pg (n + 6)) (.and (.cmp .eq (.var 4) (.con (.str "except"))) (.cmp .ne (.var 5) (.con (.str "try")))) [some rv, some (.r kc), some (.p (.int c)), some (.p (.int i)), some (.p (.str row)), some (.p (.str f.kind)), some (.r f.k), x7, x8] s (.p (.bool (row == ("except" : Str) && !(f.kind == ("try" : Str))))) := is_and (is_eqS (is_var rfl) is_con) fun _ => is_neS (is_var rfl) is_con
  have hk := lt_of_get P.cell
  refine s_seq (if_is (te_is _) (fun _ => s_seq (if_is c2 (fun z => by rw [h2] at z; cases z) fun _ => s_skip (s_ex (x_mth (x_var rfl ⟨.list, ?_, rfl, l_cons (x_tup (l_cons (x_var rfl (l_cons (x_lst (l_nil ⟨Nat.zero_le _, ?_⟩)))))) ⟩))))) fun z => by rw [h1] at z; cases z)
  · unfold mkind
    rw [see_ml P.cell]
    simp only [P.cell]
  · refine wp_ok (a := Val.r s.length) (s := s ++ [Cell.pl []]) (l_nil ⟨by show 2 ≤ SZ; decide, l_nil ?_⟩)
    show wpR (mtV .append (.r kc) [.t [.p (.str row), .r s.length]] (s ++ [Cell.pl []])) _ _
    refine wp_eq (mtV_r (c := .ml ((stk ++ [f]).map fv)) (c' := .ml ((stk ++ [f]).map fv ++ [.t [.p (.str row), .r s.length]])) (v := .p .none) (by rw [List.getElem?_append_left hk]; exact P.cell) ?_) ?_
    · show (if ((stk ++ [f]).map fv).length < SZ then _ else _) = _
      rw [if_pos (by simp only [List.length_map, List.length_append, List.length_cons, List.length_nil]; omega)]
    · exact pr_tail hc fun e1 h1 => q s.length _ _ h1 (P.push row)
theorem step_end {g a b : Fr} (P : PSt st (stk ++ [g, a, b]) kc s) (he : PE rv kc c e) (hb : b.kind = ("except" : Str)) (hc : c ≤ 40) (hl : g.ds.length < 2000) (q : ∀ kc e1 s1, PE rv kc c e1 → PSt st (stk ++ [⟨g.kind, g.k, g.ds ++ [.tuple [.str "try", .tuple a.ds, .tuple b.ds]]⟩]) kc s1 → D.nx e1 s1) :
    wpO (bindV s [3, 4] (rowV i "end") e) fun e1 => wpF (execS (kitOf pg (n + 6)) pg.fields prB e1 s) D := by
  have sz : SZ = 16777216 := rfl
  obtain ⟨x3, x4, x5, x6, x7, x8, rfl⟩ := he
  have P1 : PSt st ((stk ++ [g, a]) ++ [b]) kc s := by rw [List.append_assoc]; exact P
  have P2 : PSt st ((stk ++ [g]) ++ [a, b]) kc s := by rw [List.append_assoc]; exact P
  have P3 := P2.cut
  have hk := lt_of_get P.cell
  refine wpO_of (a := [some rv, some (.r kc), some (.p (.int c)), some (.p (.int i)), some (.p (.str "end")), x5, x6, x7, x8]) rfl ?_
  unfold prB
  refine s_seq (s_asgT ((top_is P1 rfl).wp (wpO_of (a := [some rv, some (.r kc), some (.p (.int c)), some (.p (.int i)), some (.p (.str "end")), some (.p (.str b.kind)), some (.r b.k), x7, x8]) rfl ?_)))
  unfold prM
  refine s_seq (if_is (te_is _) (fun z => absurd z (by decide +kernel)) fun _ => ?_)
  refine if_is (is_eqS (is_var rfl) is_con) (fun _ => ?_) fun z => absurd z (by decide +kernel)
  refine s_seq (if_is (is_neS (x := b.kind) (y := "except") (is_var (i := 5) rfl) is_con) (fun z => by rw [hb] at z; exact absurd z (by decide +kernel)) fun _ => s_skip (s_seq (asg_is (v := .r a.k) (is_fv1 (q := a) (is_idxM (is_var rfl) is_neg P2.cell (by rw [List.map_append]; exact at_last2 _ _ _))) ?_)))
  show wpF (execS (kitOf pg (n + 6)) pg.fields _ [some rv, some (.r kc), some (.p (.int c)), some (.p (.int i)), some (.p (.str "end")), some (.p (.str b.kind)), some (.r b.k), some (.r a.k), x8] s) _
  refine s_seq (s_asg (x_cut (x_var rfl (o_nil (o_some (x_neg (x_con ⟨2, rfl, -2, rfl, (stk ++ [g]).map fv ++ [fv a, fv b], ?_, ?_⟩)))))))
  · unfold seqL
    rw [see_ml P2.cell]
    simp only [P2.cell]
    rw [List.map_append]
    rfl
  rw [cut_last2]
  show wpF (execS (kitOf pg (n + 6)) pg.fields _ [some rv, some (.r s.length), some (.p (.int c)), some (.p (.int i)), some (.p (.str "end")), some (.p (.str b.kind)), some (.r b.k), some (.r a.k), x8] (s ++ [Cell.ml ((stk ++ [g]).map fv)])) _
  have ga := (P2.pl a (by simp)).2
  have gb := (P2.pl b (by simp)).2
  have la := lt_of_get ga
  have lb := lt_of_get gb
  rw [← List.getElem?_append_left (l₂ := [Cell.ml ((stk ++ [g]).map fv)]) la] at ga
  rw [← List.getElem?_append_left (l₂ := [Cell.ml ((stk ++ [g]).map fv)]) lb] at gb
  refine s_ex (x_appR (k := g.k) (ds := g.ds) (is_fv1 (q := g) (top_is P3 rfl)) (P3.pl g (by simp)).2 (is_tup3 is_con (is_tupR (is_var rfl) ga) (is_tupR (is_var rfl) gb)) (by omega) ?_)
  have e0 : isEE "end" = true := by decide +kernel
  refine pr_tail (by rw [e0]; exact hc) fun e1 h1 => ?_
  rw [e0] at h1
  exact q _ _ _ h1 (PSt.app (kd := g.kind) (k := g.k) (ds := g.ds) P3 _)
end
theorem plain_of {w : Str} {r : List PyData} (h : Pl w r) : plainB w r = true := by
  have all : ∀ {ps : List Str}, ps.all wordB = true → (ps.map PyData.str).all wordD = true := fun h => by rw [all_strs _ _ wordB (fun _ => rfl)]; exact h
  have o1 : ∀ x, okS 119 (.str x) = wordB x := fun _ => rfl
  have o2 : ∀ i, okS 105 (.int i) = decide (absI (.int i) < 1000000000000000000000000000000) := fun _ => rfl
  have o3 : ∀ x, okS 110 (.str x) = nameB x := fun _ => rfl
  have o4 : ∀ x, okS 114 (.str x) = refS x := fun _ => rfl
  have o5 : ∀ {ps : List Str}, 1 ≤ ps.length → ps.length ≤ 40 → ps.all wordB = true → okS 109 (.tuple (ps.map .str)) = true := fun {ps} h1 h2 h => by
    show ((decide (1 ≤ ((ps.map PyData.str).length : Int)) && decide (((ps.map PyData.str).length : Int) ≤ 40)) && (ps.map PyData.str).all wordD) = true
    rw [all h, List.length_map, decide_eq_true (by omega), decide_eq_true (by omega)]
    rfl
  have o6 : ∀ {ps : List Str}, 1 ≤ ps.length → ps.length ≤ 6 → ps.all wordB = true → okS 112 (.tuple (ps.map .str)) = true := fun {ps} h1 h2 h => by
    show ((decide (1 ≤ ((ps.map PyData.str).length : Int)) && decide (((ps.map PyData.str).length : Int) ≤ 6)) && (ps.map PyData.str).all wordD) = true
    rw [all h, List.length_map, decide_eq_true (by omega), decide_eq_true (by omega)]
    rfl
  rw [form_plain]
  cases h with
  | let_ h1 h2 => rw [show formL "let" = some [119, 105] by decide +kernel]; simp [o1, o2, h1, h2]
  | imp h1 => rw [show formL "\x69mport" = some [110] by decide +kernel]; simp [o3, h1]
  | as_ h1 h2 => rw [show formL "as" = some [114, 119] by decide +kernel]; simp [o1, o4, h1, h2]
  | from_ h1 h2 h3 => rw [show formL "from" = some [114, 119, 119] by decide +kernel]; simp [o1, o4, h1, h2, h3]
  | star h1 => rw [show formL "star" = some [114] by decide +kernel]; simp [o4, h1]
  | pub h0 h1 h => rw [show formL "public" = some [109] by decide +kernel]; simp [o5 h0 h1 h]
  | read h0 h1 h h2 => rw [show formL "read" = some [112, 119] by decide +kernel]; simp [o1, o6 h0 h1 h, h2]
  | need h0 h1 h => rw [show formL "need" = some [112] by decide +kernel]; simp [o6 h0 h1 h]
  | forget h1 => rw [show formL "forget" = some [119] by decide +kernel]; simp [o1, h1]
  | stop => rw [show formL "stop" = some [] by decide +kernel]; rfl
theorem run_body {st : Store} {rv : Val} {n : Nat} : ∀ (m : Nat) (ds : List PyData), dpL ds ≤ m → ∀ (k c i kt kc : Nat) (kd : Str) (xs : List PyData) (stk : List Fr) (s : Store) (e : Vm.Env) (more : List Val) (D : FK), cntL ds = some k → c + k ≤ 40 → stk.length + 2 * k ≤ 1000 → xs.length + k ≤ 1000 →
    PSt st (stk ++ [⟨kd, kt, xs⟩]) kc s → PE rv kc c e → (∀ kc1 e1 s1, PE rv kc1 (c + k) e1 → PSt st (stk ++ [⟨kd, kt, xs ++ ds⟩]) kc1 s1 → wpF (forGo (turnR n) more e1 s1) D) → wpF (forGo (turnR n) (enumV i (vs (rowsL ds)) ++ more) e s) D := by
  intro m
  induction m using Nat.strongRecOn with
  | _ m ih =>
    intro ds
    induction ds with
    | nil =>
      intro hd k c i kt kc kd xs stk s e more D hc h1 h2 h3 P he q
      rw [cntL] at hc
      cases hc
      refine q kc e s he ?_
      rw [List.append_nil]
      exact P
    | cons d ds ihd =>
      intro hd k c i kt kc kd xs stk s e more D hc h1 h2 h3 P he q
      rw [dpL] at hd
      obtain ⟨x, y, g, hy, hxy⟩ := cntL_cons hc
      rw [rowsL, vs_app, enum_app, List.append_assoc]
      have tail : ∀ (kc1 : Nat) (e1 : Vm.Env) (s1 : Store) (i1 : Nat), 1 ≤ x → PE rv kc1 (c + x) e1 → PSt st (stk ++ [⟨kd, kt, xs ++ [d]⟩]) kc1 s1 → wpF (forGo (turnR n) (enumV i1 (vs (rowsL ds)) ++ more) e1 s1) D := fun kc1 e1 s1 i1 hx he1 P1 => by
        refine ihd (by omega) y (c + x) i1 kt kc1 kd (xs ++ [d]) stk s1 e1 more D hy (by omega) (by omega) (by simp only [List.length_append, List.length_cons, List.length_nil]; omega) P1 he1 fun kc2 e2 s2 he2 P2 => q kc2 e2 s2 ?_ ?_
        · have : c + x + y = c + k := by omega
          rwa [this] at he2
        · rwa [List.append_assoc] at P2
      revert tail
      generalize i + (vs (rowS d)).length = i1
      intro tail
      cases g with
      | @pl w r hp0 =>
        rw [rowS_line (pl_try hp0), enum_cons]
        have hp := plain_of hp0
        exact for_cons (K := kitOf pg n) (fl := pg.fields) (turn_of (step_plain P he hp (by omega) (by omega) fun e1 s1 he1 P1 => tail kc e1 s1 i1 (by omega) he1 P1))
      | @tr a b xa xb ha hb =>
        obtain ⟨as, rfl, ha⟩ := cnt_tup ha
        obtain ⟨bs, rfl, hb⟩ := cnt_tup hb
        have da : dpL as < m := by
          have := (dp_parts (w := .str "try") (a := .tuple as) (b := .tuple bs)).1
          rw [dp] at this
          omega
        have db : dpL bs < m := by
          have := (dp_parts (w := .str "try") (a := .tuple as) (b := .tuple bs)).2
          rw [dp] at this
          omega
        rw [rowS_try, rows, rows, enum_cons, vs_app, enum_app, enum_cons, vs_app, enum_app, enum_cons]
        simp only [List.cons_append, List.append_assoc]
        have t1 : isTE "try" = true ∧ isEE "try" = false ∧ (("try" : Str) == ("except" : Str)) = false ∧ isTE "except" = true ∧ isEE "except" = true := by decide +kernel
        refine for_cons (K := kitOf pg n) (fl := pg.fields) (turn_of (step_push P he t1.1 (by rw [t1.2.2.1]; rfl) (by rw [t1.2.1]; show c + 1 ≤ 40; omega) (by omega) fun k1 e1 s1 he1 P1 => ?_))
        rw [t1.2.1] at he1
        refine ih (dpL as) da as (Nat.le_refl _) xa (c + 1) _ k1 kc "try" [] (stk ++ [⟨kd, kt, xs⟩]) s1 e1 _ D ha (by omega) (by simp only [List.length_append, List.length_cons, List.length_nil]; omega) (by simp only [List.length_nil]; omega) P1 he1 fun kc2 e2 s2 he2 P2 => ?_
        rw [List.nil_append] at P2
        refine for_cons (K := kitOf pg n) (fl := pg.fields) (turn_of (step_push P2 he2 t1.2.2.2.1 (by rw [show (("try" : Str) == ("try" : Str)) = true by decide +kernel]; simp) (by rw [t1.2.2.2.2]; show c + 1 + xa ≤ 40; omega) (by simp only [List.length_append, List.length_cons, List.length_nil]; omega) fun k3 e3 s3 he3 P3 => ?_))
        rw [t1.2.2.2.2] at he3
        refine ih (dpL bs) db bs (Nat.le_refl _) xb (c + 1 + xa) _ k3 kc2 "except" [] (stk ++ [⟨kd, kt, xs⟩] ++ [⟨"try", k1, as⟩]) s3 e3 _ D hb (by omega) (by simp only [List.length_append, List.length_cons, List.length_nil]; omega) (by simp only [List.length_nil]; omega) P3 he3 fun kc4 e4 s4 he4 P4 => ?_
        rw [List.nil_append] at P4
        refine for_cons (K := kitOf pg n) (fl := pg.fields) (turn_of (step_end (st := st) (rv := rv) (stk := stk) (kc := kc4) (g := ⟨kd, kt, xs⟩) (a := ⟨"try", k1, as⟩) (b := ⟨"except", k3, bs⟩) (c := c + (1 + (xa + xb))) ?_ ?_ rfl (by omega) (by show xs.length < 2000; omega) fun kc5 e5 s5 he5 P5 => ?_))
        · rw [List.append_assoc, List.append_assoc] at P4
          exact P4
        · have : c + 1 + xa + xb = c + (1 + (xa + xb)) := by omega
          rwa [this] at he4
        · exact tail kc5 e5 s5 i1 (by omega) he5 P5
end K05
end

section
/-! a text read back. -/
namespace K05
open PySem Vm
local macro_rules | `(tactic| walk_at "x1") => `(tactic| first
  | (with_reducible refine x_var ?_ ?_; exact rfl) | (with_reducible refine x_con ?_) | (with_reducible refine x_glo ?_ ?_; exact rfl) | (with_reducible refine x_bin ?_) | (with_reducible refine x_and ?_) | (with_reducible refine x_or ?_) | (with_reducible refine x_not ?_)
  | (with_reducible refine x_ite ?_) | (with_reducible refine x_cmp ?_) | (with_reducible refine x_chn ?_) | (with_reducible refine x_tup ?_) | (with_reducible refine x_lst ?_) | (with_reducible refine x_idx ?_) | (with_reducible refine x_slc ?_) | (with_reducible refine x_call ?_) | (with_reducible refine x_callk ?_)
  | (with_reducible refine x_bi ?_) | (with_reducible refine x_mth ?_) | (with_reducible refine x_isi ?_) | (with_reducible refine l_nil ?_) | (with_reducible refine l_cons ?_) | (with_reducible refine o_nil ?_) | (with_reducible refine o_some ?_) | (with_reducible refine t_nil ?_) | (with_reducible refine t_some ?_)
  | (with_reducible refine s_skip ?_) | (with_reducible refine s_seq ?_) | (with_reducible refine s_asg ?_) | (with_reducible refine s_asgT ?_) | (with_reducible refine s_ex ?_) | (with_reducible refine s_ret ?_) | (with_reducible refine s_ife ?_)
  | (with_reducible refine wpO_of ?_ ?_; exact rfl) | (with_reducible refine wpO_of (isi_p ?_) ?_; exact rfl))
local macro_rules | `(tactic| walk_at "xs") => `(tactic| repeat (walk_at "x1"; try dsimp only))
local macro_rules | `(tactic| walk_at "is") => `(tactic| (refine Is.of ?_; walk_at "xs"; exact ⟨rfl, rfl⟩))





theorem s_forG {K : Kit} {fl : Nat → List Str} {is : List Nat} {it : Ex} {m : Sm} {env : Vm.Env} {st : Store} {D : FK} (h : wpR (evalI K it env st) (fun items s => wpF (forGo (fun v e s => match bindV s is v e with
    | some e1 => execS K fl m e1 s
    | none => .no) items env s) D) (fun c fs s => D.er c fs env s)) : wpF (execS K fl (.for_ is it m) env st) D := by
  rw [execS]; exact wp_fl h
theorem r_parse_rows {n k : Nat} {d : PyData} {st : Store} (wf : WFs st) (hk : k ≤ 40) (h : cnt d = some k) : runF pg (n + 7) i_parse_rows [.p (.list ((rows d).map .str))] st = .ok (.p d) st := by
  obtain ⟨ds, rfl, hc⟩ := cnt_tup h
  refine f_is rfl rfl rfl wf ?_
  show wpF (execS (kitOf pg (n + 6)) pg.fields b_parse_rows [some (.p (.list ((rowsL ds).map .str))), none, none, none, none, none, none, none, none] st) _
  rw [pr_eq]
  refine s_seq (s_asg (x_lst (l_cons (x_tup (l_cons (x_con (l_cons (x_lst (l_nil ⟨Nat.zero_le _, ?_⟩)))))))))
  refine wp_ok (a := Val.r st.length) (s := st ++ [Cell.pl []]) (l_nil ⟨by show 2 ≤ SZ; decide, l_nil ⟨by show 1 ≤ SZ; decide, ?_⟩⟩)
  refine wp_ok (a := Val.r (st ++ [Cell.pl []]).length) (s := (st ++ [Cell.pl []]) ++ [Cell.ml ([Fr.mk "body" st.length []].map fv)]) ?_
  refine s_seq (asg_is is_con ?_)
  have P : PSt st ([] ++ [⟨"body", st.length, []⟩]) (st ++ [Cell.pl []]).length ((st ++ [Cell.pl []]) ++ [Cell.ml ([Fr.mk "body" st.length []].map fv)]) := by
    refine ⟨by rw [List.append_assoc, List.take_left], (pl_wf wf rfl).app ?_, by simp, by simp, ?_, by simp⟩
    · simp [cellBelow, fv, belowL, below]
      omega
    · intro q hq
      simp only [List.nil_append, List.mem_singleton] at hq
      subst hq
      refine ⟨Nat.le_refl _, ?_⟩
      rw [List.append_assoc]
      simp
  refine s_seq (s_forG (i_enu (x_var rfl (frz_p (wpO_of rfl ?_)))))
  show wpF (forGo (turnR n) (enumV 0 (vs (rowsL ds))) _ _) _
  rw [← List.append_nil (enumV 0 (vs (rowsL ds)))]
  refine run_body (rv := .p (.list ((rowsL ds).map .str))) (dpL ds) ds (Nat.le_refl _) k 0 0 st.length _ "body" [] [] _ _ [] _ hc (by omega) (by simp; omega) (by simp; omega) P ⟨_, _, _, _, _, _, rfl⟩ fun kc1 e1 s1 he P1 => ?_
  rw [List.nil_append, List.nil_append] at P1
  obtain ⟨x3, x4, x5, x6, x7, x8, rfl⟩ := he
  unfold forGo
  show wpF (execS (kitOf pg (n + 6)) pg.fields _ _ s1) _
  have cl : Is (kitOf pg (n + 6)) (.bi .len (.cons (.var 1) .nil)) [some (.p (.list ((rowsL ds).map .str))), some (.r kc1), some (.p (.int ((0 + k : Nat) : Int))), x3, x4, x5, x6, x7, x8] s1 (.p (.int 1)) := Is.of (x_bi (l_cons (x_var rfl (l_nil (wpO_of (a := .p (.int 1)) (by
    unfold biV seeM
    simp only [see_ml P1.cell, P1.cell]
    rfl) ⟨rfl, rfl⟩)))))
  refine s_seq (if_is (t := false) (is_cmpI (o := .gt) cl (is_con (d := .int 1)) rfl) (fun z => by cases z) fun _ => s_skip (ret_is (v := .p (.tuple ds)) ?_ ⟨P1.take, .inl rfl⟩))
  exact is_tupR (is_fv1 (q := ⟨"body", st.length, ds⟩) (is_idxM (is_var rfl) (is_con (d := .int 0)) P1.cell rfl)) (P1.pl ⟨"body", st.length, ds⟩ (by simp)).2
theorem eol_tl : TL.tl eol = [10] := by decide +kernel
theorem emp_tl : TL.tl ("" : Str) = [] := by decide +kernel
theorem tl_app (a b : Str) : TL.tl (a ++ b) = TL.tl a ++ TL.tl b := by
  show (a ++ b).cps.toList = _
  rw [Str.cps_append, Array.toList_append]
theorem join_end : ∀ rs : List (List Nat), TL.joinL [] (rs.map fun p => p ++ [10]) = TL.joinL [10] (rs ++ [[]])
  | [] => rfl
  | [p] => rfl
  | p :: q :: r => by
    have ih := join_end (q :: r)
    show (p ++ [10]) ++ ([] ++ TL.joinL [] ((q :: r).map fun p => p ++ [10])) = p ++ ([10] ++ TL.joinL [10] ((q :: r) ++ [[]]))
    rw [ih]
    simp
theorem text_join (rs : List Str) : textOf rs = Txt.join eol (rs ++ [("" : Str)]) := by
  refine str_ext ?_
  show TL.tl (textOf rs) = TL.tl _
  unfold textOf
  rw [TL.join_eq, TL.join_eq, TL.tl_join, TL.tl_join, emp_tl, eol_tl]
  have e1 : (rs.map fun s => s ++ eol).map TL.tl = (rs.map TL.tl).map fun p => p ++ [10] := by
    rw [List.map_map, List.map_map]
    refine List.map_congr_left fun s _ => ?_
    show TL.tl (s ++ eol) = TL.tl s ++ [10]
    rw [tl_app, eol_tl]
  have e2 : (rs ++ [("" : Str)]).map TL.tl = rs.map TL.tl ++ [[]] := by
    rw [List.map_append, List.map_cons, List.map_nil, emp_tl]
  rw [e1, e2, join_end]
theorem rows_eol {d : PyData} {k : Nat} (h : cnt d = some k) : ∀ s ∈ rows d, 10 ∉ TL.tl s := by
  refine rows_all (fun s => 10 ∉ TL.tl s) (fun w r hp hm => ?_) (by decide +kernel) (by decide +kernel) (by decide +kernel) (dp d) d (Nat.le_refl _) k h
  unfold line at hm
  rw [TL.join_eq, TL.tl_join, spc_tl] at hm
  rcases joinL_mem hm with h1 | ⟨p, h1, h2⟩
  · exact absurd h1 (by decide)
  · obtain ⟨q, hq, rfl⟩ := List.mem_map.mp h1
    exact no_c ((parts_ok hp).sh q hq).1 10 (by decide) h2
theorem text_split {d : PyData} {k : Nat} (h : cnt d = some k) : Txt.split (textOf (rows d)) eol = rows d ++ [("" : Str)] := by
  rw [text_join]
  refine TL.split_join eol_tl (by decide +kernel) (by simp) fun p hp => ?_
  rcases List.mem_append.mp hp with hp | hp
  · exact rows_eol h p hp
  · rw [List.mem_singleton] at hp
    rw [hp, emp_tl]
    simp
theorem sum_le2 {rs : List Str} {m : Nat} (h : ∀ p ∈ rs, p.length ≤ m) : (textOf rs).length ≤ rs.length * (m + 1) := by
  unfold textOf
  rw [TL.join_eq]
  have := join_len (b := "") (ps := rs.map fun s => s ++ eol) (m := m + 1) (fun p hp => by
    obtain ⟨q, hq, rfl⟩ := List.mem_map.mp hp
    have := h q hq
    rw [app_len, eol_len]
    omega)
  rw [List.length_map] at this
  exact this
theorem r_parse_body {n k : Nat} {d : PyData} {st : Store} (wf : WFs st) (hk : k ≤ 40) (h : cnt d = some k) : runF pg (n + 8) i_parse_body [.p (.str (textOf (rows d)))] st = .ok (.p d) st := by
  have sz : SZ = 16777216 := rfl
  have hl := rows_len (dp d) d (Nat.le_refl _) k h
  have ht := sum_le2 (rows_short h)
  refine f_is rfl rfl rfl wf ?_
  show wpF (execS (kitOf pg (n + 7)) pg.fields b_parse_body [some (.p (.str (textOf (rows d)))), none, none] st) _
  unfold b_parse_body
  have hlen : (textOf (rows d)).length + 2 ≤ SZ := by
    have : (rows d).length * (2665 + 1) ≤ 120 * 2666 := Nat.mul_le_mul (by omega) (by omega)
    omega
  have c1 := isD_split (K := kitOf pg (n + 7)) (env := [some (.p (.str (textOf (rows d)))), none, none]) (st := st) (b := eol) (is_var (i := 0) rfl) (by rw [eol_len]; decide) hlen
  rw [text_split h, List.map_append] at c1
  have V1 : ∀ {z}, Is (kitOf pg (n + 7)) (.var 1) [some (.p (.str (textOf (rows d)))), some (.p (.list ((rows d).map PyData.str ++ [PyData.str ""]))), z] st (.p (.list ((rows d).map PyData.str ++ [PyData.str ""]))) := is_var rfl
  have c2 : Is (kitOf pg (n + 7)) (.slc (.var 1) .nil (.cons (.neg (.con (.int 1))) .nil)) [some (.p (.str (textOf (rows d)))), some (.p (.list ((rows d).map PyData.str ++ [PyData.str ""]))), none] st (.p (.list ((rows d).map PyData.str))) := Is.of (x_slc (V1.wp (o_nil (o_some (is_neg.wp ⟨-1, rfl, wpO_of (a := .p (.list ((rows d).map PyData.str))) (by
    show (slcD none (some (-1)) (.list _)).map Val.p = _
    unfold slcD
    simp only [cut_last1]
    rfl) ⟨rfl, rfl⟩⟩)))))
  have c3 : Is (kitOf pg (n + 7)) (.idx (.var 1) (.neg (.con (.int 1)))) [some (.p (.str (textOf (rows d)))), some (.p (.list ((rows d).map PyData.str ++ [PyData.str ""]))), some (.p d)] st (.p (.str "")) := Is.of (x_idx (V1.wp (is_neg.wp (wpO_of (a := .p (.str "")) (by
    show (idxD (.list _) (.int (-1))).map Val.p = _
    unfold idxD atL
    simp only [at_last]
    rfl) ⟨rfl, rfl⟩))))
  refine s_seq (if_is (t := false) (by walk_at "is") (fun z => by cases z) fun _ => s_skip (s_seq (asg_is c1 (s_seq (asg_is (is_1 c2 (r_parse_rows wf hk h)) ?_)))))
  show wpF (execS (kitOf pg (n + 7)) pg.fields _ [some (.p (.str (textOf (rows d)))), some (.p (.list ((rows d).map PyData.str ++ [PyData.str ""]))), some (.p d)] st) _
  have c4 := is_neS c3 (is_con (d := .str ""))
  rw [show (!(("" : Str) == ("" : Str))) = false by decide +kernel] at c4
  refine s_seq (if_is (t := false) c4 (fun z => by cases z) fun _ => s_skip ?_)
  dsimp only
  exact ret_is (v := .p d) (is_var rfl) ⟨by simp, .inl rfl⟩
end K05
end

section
/-! draws. -/
namespace K05
open PySem Vm
local macro_rules | `(tactic| walk_at "x1") => `(tactic| first
  | (with_reducible refine x_var ?_ ?_; exact rfl) | (with_reducible refine x_con ?_) | (with_reducible refine x_glo ?_ ?_; exact rfl) | (with_reducible refine x_bin ?_) | (with_reducible refine x_and ?_) | (with_reducible refine x_or ?_) | (with_reducible refine x_not ?_)
  | (with_reducible refine x_ite ?_) | (with_reducible refine x_cmp ?_) | (with_reducible refine x_chn ?_) | (with_reducible refine x_tup ?_) | (with_reducible refine x_lst ?_) | (with_reducible refine x_idx ?_) | (with_reducible refine x_slc ?_) | (with_reducible refine x_call ?_) | (with_reducible refine x_callk ?_)
  | (with_reducible refine x_bi ?_) | (with_reducible refine x_mth ?_) | (with_reducible refine x_isi ?_) | (with_reducible refine l_nil ?_) | (with_reducible refine l_cons ?_) | (with_reducible refine o_nil ?_) | (with_reducible refine o_some ?_) | (with_reducible refine t_nil ?_) | (with_reducible refine t_some ?_)
  | (with_reducible refine s_skip ?_) | (with_reducible refine s_seq ?_) | (with_reducible refine s_asg ?_) | (with_reducible refine s_asgT ?_) | (with_reducible refine s_ex ?_) | (with_reducible refine s_ret ?_) | (with_reducible refine s_ife ?_)
  | (with_reducible refine wpO_of ?_ ?_; exact rfl) | (with_reducible refine wpO_of (isi_p ?_) ?_; exact rfl))
local macro_rules | `(tactic| walk_at "xs") => `(tactic| repeat (walk_at "x1"; try dsimp only))
local macro_rules | `(tactic| walk_at "is") => `(tactic| (refine Is.of ?_; walk_at "xs"; exact ⟨rfl, rfl⟩))





theorem f_gen {P : Pg} {n i : Nat} {d : Fn} {vs : List Val} {st : Store} {Q : Val → Store → Prop} (hd : P.fns i = some d) (hl : vs.length = d.np) (hk : d.keep = false)
    (h : wpF (execS (kitOf P n) P.fields d.body (vs.map some ++ List.replicate (d.ns - d.np) none) st)
      { nx := fun _ _ => False, rt := fun v s => (∃ d, v = .p d) ∧ WFs s ∧ s.length = st.length ∧ Q v s }) :
    wpR (runF P (n + 1) i vs st) Q (fun _ _ _ => False) := by
  rw [runF, hd]
  simp only
  rw [if_pos hl]
  have e : (⟨runF P n, P.con, P.sub, P.wh, P.isx, P.iso⟩ : Kit) = kitOf P n := rfl
  rw [e]
  revert h
  cases execS (kitOf P n) P.fields d.body (vs.map some ++ List.replicate (d.ns - d.np) none) st with
  | nx e1 s => exact fun h => h.elim
  | rt v s =>
    rintro ⟨⟨d, rfl⟩, wf, len, q⟩
    simp only
    unfold leave
    rw [hk]
    simp only
    have e2 : s.take st.length = s := by rw [← len]; exact List.take_length
    have e3 : (s.take st.length).all (cellBelow st.length) = true := by rw [e2, ← len]; exact wf
    rw [if_pos e3, e2]
    exact q
  | er c fs e1 s => exact fun h => h.elim
  | bk e1 s => exact fun h => h.elim
  | ct e1 s => exact fun h => h.elim
  | no => exact fun h => h.elim
theorem is_mod {K : Kit} {a b : Ex} {env : Vm.Env} {st : Store} {i j : Int} (h1 : Is K a env st (.p (.int i))) (h2 : Is K b env st (.p (.int j))) (h : 0 < j) : Is K (.bin .mod a b) env st (.p (.int (i % j))) := Is.of (x_bin (h1.wp (h2.wp (wpO_of (a := .p (.int (i % j))) (by
  show (binD .mod (.int i) (.int j)).map Val.p = _
  unfold binD
  simp only
  rw [if_pos h]
  rfl) ⟨rfl, rfl⟩))))
theorem is_fdiv {K : Kit} {a b : Ex} {env : Vm.Env} {st : Store} {i j : Int} (h1 : Is K a env st (.p (.int i))) (h2 : Is K b env st (.p (.int j))) (h : 0 < j) (h' : j < 1073741824) : Is K (.bin .fdiv a b) env st (.p (.int (i / j))) := Is.of (x_bin (h1.wp (h2.wp (wpO_of (a := .p (.int (i / j))) (by
  show (binD .fdiv (.int i) (.int j)).map Val.p = _
  unfold binD
  simp only
  rw [if_pos ⟨h, h'⟩]
  rfl) ⟨rfl, rfl⟩))))
theorem is_mul {K : Kit} {a b : Ex} {env : Vm.Env} {st : Store} {i j : Int} (h1 : Is K a env st (.p (.int i))) (h2 : Is K b env st (.p (.int j))) (h : 0 ≤ i) (h' : i < 2147483648) : Is K (.bin .mul a b) env st (.p (.int (i * j))) := Is.of (x_bin (h1.wp (h2.wp (wpO_of (a := .p (.int (i * j))) (by
  show (binD .mul (.int i) (.int j)).map Val.p = _
  unfold binD
  simp only
  rw [if_pos (.inl ⟨by have : -(2 ^ 64 : Int) < 0 := by decide
                       omega, by have : (2147483648 : Int) < 2 ^ 64 := by decide
                                 omega⟩)]
  rfl) ⟨rfl, rfl⟩))))
structure D1 (kd kc : Nat) (is : List Int) (a m t : Int) (L : Nat) (s : Store) : Prop where
  c0 : s[kd]? = some (.ml [.r kc, .p (.int a), .p (.int m), .p (.int t)])
  c1 : s[kc]? = some (.pl (is.map .int))
  wf : WFs s
  len : s.length = L
structure Ok1 (is : List Int) (a m t : Int) : Prop where
  ne : is ≠ []
  nn : ∀ i ∈ is, 0 ≤ i
  a0 : 0 ≤ a
  m0 : 0 ≤ m
  m1 : m < 2147483647
  t0 : 0 ≤ t
def DS (kd L : Nat) (s : Store) : Prop := ∃ kc is a m t, D1 kd kc is a m t L s ∧ Ok1 is a m t
theorem DS.wf {kd L : Nat} {s : Store} (h : DS kd L s) : WFs s := by
  obtain ⟨_, _, _, _, _, h, _⟩ := h
  exact h.wf
theorem DS.len {kd L : Nat} {s : Store} (h : DS kd L s) : s.length = L := by
  obtain ⟨_, _, _, _, _, h, _⟩ := h
  exact h.len
section
variable {kd kc L : Nat} {is is' : List Int} {a m t a' m' t' : Int} {s : Store}
theorem D1.ne (D : D1 kd kc is a m t L s) : kc ≠ kd := fun e => by
  have := D.c1
  rw [e, D.c0] at this
  cases this
theorem D1.ml (D : D1 kd kc is a m t L s) : D1 kd kc is a' m' t' L (s.set kd (.ml [.r kc, .p (.int a'), .p (.int m'), .p (.int t')])) := by
  have h0 := lt_of_get D.c0
  have h1 := lt_of_get D.c1
  refine ⟨by rw [List.getElem?_set, if_pos rfl, if_pos h0], by rw [List.getElem?_set, if_neg D.ne.symm]; exact D.c1, WFs.set D.wf ?_, by rw [List.length_set]; exact D.len⟩
  show belowL s.length [.r kc, .p (.int a'), .p (.int m'), .p (.int t')] = true
  simp [belowL, below, h1]
theorem D1.pl (D : D1 kd kc is a m t L s) : D1 kd kc is' a m t L (s.set kc (.pl (is'.map .int))) := by
  have h0 := lt_of_get D.c0
  have h1 := lt_of_get D.c1
  exact ⟨by rw [List.getElem?_set, if_neg D.ne]; exact D.c0, by rw [List.getElem?_set, if_pos rfl, if_pos h1], WFs.set D.wf rfl, by rw [List.length_set]; exact D.len⟩
theorem D1.is0 {K : Kit} {env : Vm.Env} {x : Ex} (D : D1 kd kc is a m t L s) (h : Is K x env s (.r kd)) : Is K (.idx x (.con (.int 0))) env s (.r kc) := is_idxM h (is_con (d := .int 0)) D.c0 rfl
theorem D1.is1 {K : Kit} {env : Vm.Env} {x : Ex} (D : D1 kd kc is a m t L s) (h : Is K x env s (.r kd)) : Is K (.idx x (.con (.int 1))) env s (.p (.int a)) := is_idxM h (is_con (d := .int 1)) D.c0 rfl
theorem D1.is2 {K : Kit} {env : Vm.Env} {x : Ex} (D : D1 kd kc is a m t L s) (h : Is K x env s (.r kd)) : Is K (.idx x (.con (.int 2))) env s (.p (.int m)) := is_idxM h (is_con (d := .int 2)) D.c0 rfl
theorem D1.is3 {K : Kit} {env : Vm.Env} {x : Ex} (D : D1 kd kc is a m t L s) (h : Is K x env s (.r kd)) : Is K (.idx x (.con (.int 3))) env s (.p (.int t)) := is_idxM h (is_con (d := .int 3)) D.c0 rfl
end
theorem is_18 {K : Kit} {env : Vm.Env} {st : Store} : Is K (.bin .pow (.con (.int 10)) (.con (.int 18))) env st (.p (.int 1000000000000000000)) := Is.of (x_bin (x_con (x_con (wpO_of (a := .p (.int 1000000000000000000)) (by kernel_rfl) ⟨rfl, rfl⟩))))
theorem sub_is {K : Kit} {fl : Nat → List Str} {x a i : Ex} {env : Vm.Env} {st : Store} {D : FK} {k : Nat} {v : Val} {j : PyData} {c c' : Cell} (h : Is K x env st v) (ha : Is K a env st (.r k)) (hi : Is K i env st (.p j)) (hc : st[k]? = some c) (hp : putC c j v = some c') (q : D.nx env (st.set k c')) : wpF (execS K fl (.asg (.sub a i) x) env st) D :=
  s_sub (h.wp (ha.wp (hi.wp ⟨k, j, c, rfl, rfl, hc, wpO_of hp q⟩)))
theorem ixN_in {n : Nat} {i : Int} (h : 0 ≤ i) (h' : i < n) : L2.ixN n i = some i.toNat := by
  unfold L2.ixN
  rw [if_pos h, if_pos h']
theorem g_take {n kd L : Nat} {s : Store} {size : Int} (D : DS kd L s) (h0 : 0 < size) (h1 : size < 1073741824) : wpR (runF pg (n + 1) i__law_take [.r kd, .p (.int size)] s) (fun v s' => ∃ j, v = .p (.int j) ∧ 0 ≤ j ∧ j < size ∧ DS kd L s') (fun _ _ _ => False) := by
  have hlen := D.len
  obtain ⟨kc, is, a, m, t, D, o⟩ := D
  refine f_gen rfl rfl rfl ?_
  show wpF (execS (kitOf pg n) pg.fields b__law_take [some (.r kd), some (.p (.int size)), none, none, none] s) _
  unfold b__law_take
  have hl : 0 < is.length := List.length_pos_iff.mpr o.ne
  have hm0 : 0 ≤ a % (is.length : Int) := Int.emod_nonneg _ (by omega)
  have hm1 : a % (is.length : Int) < is.length := Int.emod_lt_of_pos _ (by omega)
  refine s_seq (asg_is (D.is0 (is_var rfl)) ?_)
  show wpF (execS (kitOf pg n) pg.fields _ [some (.r kd), some (.p (.int size)), some (.r kc), none, none] s) _
  have cl : Is (kitOf pg n) (.bi .len (.cons (.var 2) .nil)) [some (.r kd), some (.p (.int size)), some (.r kc), none, none] s (.p (.int is.length)) := Is.of (x_bi (l_cons (x_var rfl (l_nil (wpO_of (a := .p (.int is.length)) (by
    unfold biV seeM
    simp only [see_rd D.c1 rfl]
    show some (Val.p (.int ((is.map PyData.int).length : Nat))) = _
    rw [List.length_map]) ⟨rfl, rfl⟩)))))
  refine s_seq (asg_is (is_mod (D.is1 (is_var rfl)) cl (by omega)) ?_)
  show wpF (execS (kitOf pg n) pg.fields _ [some (.r kd), some (.p (.int size)), some (.r kc), some (.p (.int (a % (is.length : Int)))), none] s) _
  revert hm0 hm1
  generalize a % (is.length : Int) = j
  intro hm0 hm1
  obtain ⟨c, hc⟩ : ∃ c, is[j.toNat]? = some c := ⟨_, List.getElem?_eq_getElem (by omega)⟩
  have hc0 := o.nn c (List.mem_of_getElem? hc)
  have ce : Is (kitOf pg n) (.idx (.var 2) (.var 3)) [some (.r kd), some (.p (.int size)), some (.r kc), some (.p (.int j)), none] s (.p (.int c)) := Is.of (x_idx (x_var rfl (x_var rfl (wpO_of (a := .p (.int c)) (by
    unfold idxV
    rw [see_rd D.c1 rfl]
    show (idxD (.list (is.map PyData.int)) (.int j)).map Val.p = _
    unfold idxD atL L2.atI
    simp only
    rw [ixN_in hm0 (by rw [List.length_map]; exact hm1)]
    simp only [Option.bind_some]
    rw [List.getElem?_map, hc]
    rfl) ⟨rfl, rfl⟩))))
  refine s_seq (asg_is ce ?_)
  show wpF (execS (kitOf pg n) pg.fields _ [some (.r kd), some (.p (.int size)), some (.r kc), some (.p (.int j)), some (.p (.int c))] s) _
  refine s_seq (if_is (is_cmpI (o := .ge) (is_var (i := 4) rfl) is_18 rfl) (fun _ => ?_) fun _ => s_skip ?_)
  · refine s_seq (sub_is (k := kc) (c' := .pl ((is.set j.toNat (c / size)).map .int)) (is_fdiv (is_var rfl) (is_var rfl) h0 h1) (is_var rfl) (is_var rfl) D.c1 ?_ ?_)
    · show (L2.ixN (is.map PyData.int).length j).map _ = _
      rw [ixN_in hm0 (by rw [List.length_map]; exact hm1), List.map_set]
      rfl
    · refine ret_is (is_mod (is_var rfl) (is_var rfl) h0) ?_
      have D' := D.pl (is' := is.set j.toNat (c / size))
      refine ⟨⟨_, rfl⟩, D'.wf, by rw [D'.len, hlen], c % size, rfl, Int.emod_nonneg _ (by omega), Int.emod_lt_of_pos _ h0, kc, _, _, _, _, D', ⟨fun e => ?_, fun i hi => ?_, o.a0, o.m0, o.m1, o.t0⟩⟩
      · have := congrArg List.length e
        rw [List.length_set] at this
        simp at this
        exact o.ne this
      · rcases List.mem_or_eq_of_mem_set hi with hi | rfl
        · exact o.nn i hi
        · exact Int.ediv_nonneg hc0 (by omega)
  · refine s_seq (sub_is (k := kd) (c' := .ml [.r kc, .p (.int (a + 1)), .p (.int m), .p (.int t)]) (is_add (D.is1 (is_var rfl)) is_con) (is_var rfl) is_con D.c0 rfl ?_)
    have D2 := D.ml (a' := a + 1) (m' := m) (t' := t)
    refine s_seq (sub_is (k := kd) (c' := .ml [.r kc, .p (.int (a + 1)), .p (.int m), .p (.int (t + 1))]) (is_add (D2.is3 (is_var rfl)) is_con) (is_var rfl) is_con D2.c0 rfl ?_)
    have D3 := D2.ml (a' := a + 1) (m' := m) (t' := t + 1)
    have o1 := o.m0
    have o2 := o.m1
    have o3 := o.t0
    have o4 := o.a0
    refine s_seq (sub_is (k := kd) (c' := .ml [.r kc, .p (.int (a + 1)), .p (.int ((m * 48271 + c + 7919 * (t + 1) + 12345) % 2147483647)), .p (.int (t + 1))]) (is_mod (is_add (is_add (is_add (is_mul (D3.is2 (is_var rfl)) is_con o1 (by omega)) (is_var rfl)) (is_mul is_con (D3.is3 (is_var rfl)) (by decide) (by decide))) is_con) is_con (by decide)) (is_var rfl) is_con D3.c0 rfl ?_)
    have D4 := D3.ml (a' := a + 1) (m' := (m * 48271 + c + 7919 * (t + 1) + 12345) % 2147483647) (t' := t + 1)
    have q0 : 0 ≤ (m * 48271 + c + 7919 * (t + 1) + 12345) % 2147483647 := Int.emod_nonneg _ (by decide)
    have q1 : (m * 48271 + c + 7919 * (t + 1) + 12345) % 2147483647 < 2147483647 := Int.emod_lt_of_pos _ (by decide)
    revert D4 q0 q1
    generalize (m * 48271 + c + 7919 * (t + 1) + 12345) % 2147483647 = m'
    intro D4 q0 q1
    refine ret_is (is_mod (is_fdiv (is_mod (is_mul (D4.is2 (is_var rfl)) (D4.is2 (is_var rfl)) q0 (by omega)) is_con (by decide)) is_con (by decide) (by decide)) (is_var rfl) h0) ?_
    exact ⟨⟨_, rfl⟩, D4.wf, by rw [D4.len, hlen], _, rfl, Int.emod_nonneg _ (by omega), Int.emod_lt_of_pos _ h0, kc, _, _, _, _, D4, ⟨o.ne, o.nn, by omega, q0, q1, by omega⟩⟩
theorem g_pick {n kd L : Nat} {s : Store} {ds : List PyData} (D : DS kd L s) (h0 : ds ≠ []) (h1 : ds.length ≤ 1000) : wpR (runF pg (n + 2) i__law_pick [.r kd, .p (.list ds)] s) (fun v s' => ∃ d ∈ ds, v = .p d ∧ DS kd L s') (fun _ _ _ => False) := by
  have hlen := D.len
  refine f_gen rfl rfl rfl ?_
  show wpF (execS (kitOf pg (n + 1)) pg.fields b__law_pick [some (.r kd), some (.p (.list ds))] s) _
  unfold b__law_pick
  have hp : 0 < ds.length := List.length_pos_iff.mpr h0
  refine s_ret (x_idx (x_var rfl (x_call (l_cons (x_var rfl (l_cons ((len_list (is_var rfl)).wp (l_nil ?_))))))))
  refine wpR.any (g_take D (by omega) (by omega)) ?_
  rintro v s1 ⟨j, rfl, j0, j1, D1⟩
  obtain ⟨d, hd⟩ : ∃ d, ds[j.toNat]? = some d := ⟨_, List.getElem?_eq_getElem (by omega)⟩
  refine wpO_of (a := .p d) ?_ ⟨⟨_, rfl⟩, D1.wf, by rw [D1.len, hlen], d, List.mem_of_getElem? hd, rfl, D1⟩
  show (idxD (.list ds) (.int j)).map Val.p = _
  unfold idxD atL L2.atI
  simp only
  rw [ixN_in j0 j1]
  simp only [Option.bind_some, hd]
  rfl
end K05
end

section
/-! bodies drawn. -/
namespace K05
open PySem Vm
local macro_rules | `(tactic| walk_at "x1") => `(tactic| first
  | (with_reducible refine x_var ?_ ?_; exact rfl) | (with_reducible refine x_con ?_) | (with_reducible refine x_glo ?_ ?_; exact rfl) | (with_reducible refine x_bin ?_) | (with_reducible refine x_and ?_) | (with_reducible refine x_or ?_) | (with_reducible refine x_not ?_)
  | (with_reducible refine x_ite ?_) | (with_reducible refine x_cmp ?_) | (with_reducible refine x_chn ?_) | (with_reducible refine x_tup ?_) | (with_reducible refine x_lst ?_) | (with_reducible refine x_idx ?_) | (with_reducible refine x_slc ?_) | (with_reducible refine x_call ?_) | (with_reducible refine x_callk ?_)
  | (with_reducible refine x_bi ?_) | (with_reducible refine x_mth ?_) | (with_reducible refine x_isi ?_) | (with_reducible refine l_nil ?_) | (with_reducible refine l_cons ?_) | (with_reducible refine o_nil ?_) | (with_reducible refine o_some ?_) | (with_reducible refine t_nil ?_) | (with_reducible refine t_some ?_)
  | (with_reducible refine s_skip ?_) | (with_reducible refine s_seq ?_) | (with_reducible refine s_asg ?_) | (with_reducible refine s_asgT ?_) | (with_reducible refine s_ex ?_) | (with_reducible refine s_ret ?_) | (with_reducible refine s_ife ?_)
  | (with_reducible refine wpO_of ?_ ?_; exact rfl) | (with_reducible refine wpO_of (isi_p ?_) ?_; exact rfl))
local macro_rules | `(tactic| walk_at "xs") => `(tactic| repeat (walk_at "x1"; try dsimp only))
local macro_rules | `(tactic| walk_at "is") => `(tactic| (refine Is.of ?_; walk_at "xs"; exact ⟨rfl, rfl⟩))





mutual
def lim (m : Nat) : PyData → Bool
  | .str s => decide (s.length ≤ 64)
  | .list ds => decide (ds.length ≤ m) && limL m ds
  | .tuple ds => decide (ds.length ≤ m) && limL m ds
  | _ => true
def limL (m : Nat) : List PyData → Bool
  | [] => true
  | d :: ds => lim m d && limL m ds
end
theorem limL_iff {m : Nat} : ∀ {ds : List PyData}, limL m ds = true ↔ ∀ d ∈ ds, lim m d = true
  | [] => by simp [limL]
  | d :: ds => by
    rw [limL, Bool.and_eq_true, limL_iff]
    simp
theorem lim_tup {m : Nat} {ds : List PyData} : lim m (.tuple ds) = true ↔ ds.length ≤ m ∧ ∀ d ∈ ds, lim m d = true := by rw [lim, Bool.and_eq_true, decide_eq_true_eq, limL_iff]
theorem lim_list {m : Nat} {ds : List PyData} : lim m (.list ds) = true ↔ ds.length ≤ m ∧ ∀ d ∈ ds, lim m d = true := by rw [lim, Bool.and_eq_true, decide_eq_true_eq, limL_iff]
theorem lim_up {m : Nat} : ∀ (k : Nat) (d : PyData), dp d ≤ k → lim m d = true → ∀ m', m ≤ m' → lim m' d = true := by
  intro k
  induction k with
  | zero =>
    intro d hd h m' hm
    cases d with
    | list ds => rw [dp] at hd; omega
    | tuple ds => rw [dp] at hd; omega
    | str s => rw [lim] at h ⊢; exact h
    | _ => rw [lim] <;> (intros; contradiction)
  | succ k ih =>
    intro d hd h m' hm
    cases d with
    | list ds =>
      rw [dp] at hd
      rw [lim_list] at h ⊢
      exact ⟨by omega, fun e he => ih e (by have := dp_mem he; omega) (h.2 e he) m' hm⟩
    | tuple ds =>
      rw [dp] at hd
      rw [lim_tup] at h ⊢
      exact ⟨by omega, fun e he => ih e (by have := dp_mem he; omega) (h.2 e he) m' hm⟩
    | str s => rw [lim] at h ⊢; exact h
    | _ => rw [lim] <;> (intros; contradiction)
theorem lim_tame {m : Nat} (hm : m ≤ 4096) : ∀ (k : Nat) (d : PyData), dp d ≤ k → lim m d = true → tame d = true := by
  intro k
  induction k with
  | zero =>
    intro d hd h
    cases d with
    | list ds => rw [dp] at hd; omega
    | tuple ds => rw [dp] at hd; omega
    | str s => rw [lim, decide_eq_true_eq] at h; rw [tame, decide_eq_true_eq]; omega
    | _ => rw [tame] <;> (intros; contradiction)
  | succ k ih =>
    intro d hd h
    cases d with
    | list ds =>
      rw [dp] at hd
      rw [lim_list] at h
      rw [tame, Bool.and_eq_true, decide_eq_true_eq]
      exact ⟨by omega, tameL_of fun e he => ih e (by have := dp_mem he; omega) (h.2 e he)⟩
    | tuple ds =>
      rw [dp] at hd
      rw [lim_tup] at h
      exact tame_mk (by omega) fun e he => ih e (by have := dp_mem he; omega) (h.2 e he)
    | str s => rw [lim, decide_eq_true_eq] at h; rw [tame, decide_eq_true_eq]; omega
    | _ => rw [tame] <;> (intros; contradiction)
def Gd (m N : Nat) (d : PyData) : Prop := lim m d = true ∧ dp d ≤ N
theorem Gd.up {m N m' N' : Nat} {d : PyData} (h : Gd m N d) (h1 : m ≤ m') (h2 : N ≤ N') : Gd m' N' d := ⟨lim_up _ d (Nat.le_refl _) h.1 m' h1, Nat.le_trans h.2 h2⟩
theorem dpL_le {N : Nat} : ∀ {ds : List PyData}, (∀ d ∈ ds, dp d ≤ N) → dpL ds ≤ N
  | [], _ => by rw [dpL]; omega
  | d :: ds, h => by
    rw [dpL]
    have := h d (List.mem_cons_self ..)
    have := dpL_le fun e he => h e (List.mem_cons_of_mem _ he)
    omega
theorem Gd.mk {m N : Nat} {ds : List PyData} (h : ds.length ≤ m) (h2 : ∀ d ∈ ds, Gd m N d) : Gd m (N + 1) (.tuple ds) := ⟨lim_tup.mpr ⟨h, fun d hd => (h2 d hd).1⟩, by
  rw [dp]
  have := dpL_le fun d hd => (h2 d hd).2
  omega⟩
theorem Gd.mkL {m N : Nat} {ds : List PyData} (h : ds.length ≤ m) (h2 : ∀ d ∈ ds, Gd m N d) : Gd m (N + 1) (.list ds) := ⟨lim_list.mpr ⟨h, fun d hd => (h2 d hd).1⟩, by
  rw [dp]
  have := dpL_le fun d hd => (h2 d hd).2
  omega⟩
theorem Gd.tup {m N : Nat} {ds : List PyData} (h : Gd m N (.tuple ds)) : ds.length ≤ m ∧ ∀ d ∈ ds, lim m d = true ∧ dp d + 1 ≤ N := by
  have h1 := lim_tup.mp h.1
  have h2 := h.2
  rw [dp] at h2
  exact ⟨h1.1, fun d hd => ⟨h1.2 d hd, by have := dp_mem hd; omega⟩⟩
theorem gd_nil {m N : Nat} : ∀ d ∈ ([] : List PyData), Gd m N d := fun d hd => by cases hd
theorem gd_cons {m N : Nat} {a : PyData} {l : List PyData} (h : Gd m N a) (h2 : ∀ d ∈ l, Gd m N d) : ∀ d ∈ a :: l, Gd m N d := fun d hd => by
  rcases List.mem_cons.mp hd with rfl | hd
  · exact h
  · exact h2 d hd
def gdB (m N : Nat) (d : PyData) : Bool := lim m d && decide (dp d ≤ N)
theorem gdB_mem {m N : Nat} {ds : List PyData} (h : ds.all (gdB m N) = true) {d : PyData} (hd : d ∈ ds) : Gd m N d := by
  have := List.all_eq_true.mp h d hd
  unfold gdB at this
  rw [Bool.and_eq_true, decide_eq_true_eq] at this
  exact this
theorem ev_nil {K : Kit} {env : Vm.Env} {st : Store} : evalL K .nil env st = .ok [] st := eq_of (l_nil ⟨rfl, rfl⟩)
theorem ev_cons {K : Kit} {a b : Ex} {env : Vm.Env} {st : Store} {d : PyData} {ds : List PyData} (h1 : Is K a env st (.p d)) (h2 : evalL K b env st = .ok (ds.map .p) st) : evalL K (.cons a b) env st = .ok ((d :: ds).map .p) st := eq_of (l_cons (h1.wp (wp_eq h2 ⟨rfl, rfl⟩)))
section
variable {K : Kit} {env : Vm.Env} {st : Store}
theorem is_p26 : Is K (.bin .pow (.con (.int 10)) (.con (.int 26))) env st (.p (.int 100000000000000000000000000)) := Is.of (x_bin (x_con (x_con (wpO_of (a := .p (.int 100000000000000000000000000)) (by kernel_rfl) ⟨rfl, rfl⟩))))
theorem is_n26 : Is K (.neg (.bin .pow (.con (.int 10)) (.con (.int 26)))) env st (.p (.int (-100000000000000000000000000))) := Is.of (x_neg (is_p26.wp ⟨_, rfl, rfl, rfl⟩))
theorem is_npow : Is K (.neg (.bin .pow (.con (.int 10)) (.con (.int 30)))) env st (.p (.int (-1000000000000000000000000000000))) := Is.of (x_neg (is_pow.wp ⟨_, rfl, rfl, rfl⟩))
theorem is_pow1 : Is K (.bin .sub (.bin .pow (.con (.int 10)) (.con (.int 30))) (.con (.int 1))) env st (.p (.int (1000000000000000000000000000000 - 1))) := is_sub is_pow is_con
theorem is_1pow : Is K (.bin .sub (.con (.int 1)) (.bin .pow (.con (.int 10)) (.con (.int 30)))) env st (.p (.int (1 - 1000000000000000000000000000000))) := is_sub is_con is_pow
theorem is_e0 : Is K (.tup .nil) env st (.p (.tuple [])) := is_tupE (ds := []) ev_nil (by decide)
end
local macro_rules | `(tactic| walk_at "ll") => `(tactic| repeat (first | exact ev_nil | (refine ev_cons (by first | exact is_con | exact is_neg | exact is_pow | exact is_npow | exact is_pow1 | exact is_1pow | exact is_p26 | exact is_n26 | exact is_e0) ?_)))
theorem f_gd {P : Pg} {n i kd L : Nat} {d : Fn} {vs : List Val} {st : Store} {Pp : PyData → Prop} (hd : P.fns i = some d) (hl : vs.length = d.np) (hk : d.keep = false) (D : DS kd L st)
    (h : wpF (execS (kitOf P n) P.fields d.body (vs.map some ++ List.replicate (d.ns - d.np) none) st)
      { nx := fun _ _ => False, rt := fun v s => ∃ d, v = .p d ∧ Pp d ∧ DS kd L s }) :
    wpR (runF P (n + 1) i vs st) (fun v s => ∃ d, v = .p d ∧ Pp d ∧ DS kd L s) (fun _ _ _ => False) := by
  refine f_gen hd hl hk ?_
  revert h
  cases execS (kitOf P n) P.fields d.body (vs.map some ++ List.replicate (d.ns - d.np) none) st with
  | nx e1 s => exact fun h => h.elim
  | rt v s => exact fun ⟨d, e, p, D1⟩ => ⟨⟨d, e⟩, D1.wf, by rw [D1.len, D.len], d, e, p, D1⟩
  | er c fs e1 s => exact fun h => h.elim
  | bk e1 s => exact fun h => h.elim
  | ct e1 s => exact fun h => h.elim
  | no => exact fun h => h.elim
/-- a pick from a list that stands there -/
theorem x_pick {n kd L i : Nat} {es : Ex} {env : Vm.Env} {s : Store} {ds : List PyData} {Q : Val → Store → Prop} {E : EK} (D : DS kd L s) (he : env[i]? = some (some (.r kd))) (hl : evalX (kitOf pg (n + 2)) es env s = .ok (.p (.list ds)) s) (h0 : ds ≠ []) (h1 : ds.length ≤ 1000) (q : ∀ d ∈ ds, ∀ s', DS kd L s' → Q (.p d) s') : wpR (evalX (kitOf pg (n + 2)) (.call i__law_pick (.cons (.var i) (.cons es .nil))) env s) Q E :=
  x_call (l_cons (x_var he (l_cons (wp_eq hl (l_nil (wpR.any (g_pick D h0 h1) fun v s' ⟨d, hd, e, D1⟩ => by rw [e]; exact q d hd s' D1))))))
theorem x_take {n kd L i : Nat} {e : Ex} {env : Vm.Env} {s : Store} {size : Int} {Q : Val → Store → Prop} {E : EK} (D : DS kd L s) (he : env[i]? = some (some (.r kd))) (hl : Is (kitOf pg (n + 1)) e env s (.p (.int size))) (h0 : 0 < size) (h1 : size < 1073741824) (q : ∀ j s', 0 ≤ j → j < size → DS kd L s' → Q (.p (.int j)) s') : wpR (evalX (kitOf pg (n + 1)) (.call i__law_take (.cons (.var i) (.cons e .nil))) env s) Q E :=
  x_call (l_cons (x_var he (l_cons (hl.wp (l_nil (wpR.any (g_take D h0 h1) fun v s' ⟨j, e, j0, j1, D1⟩ => by rw [e]; exact q j s' j0 j1 D1))))))
theorem x_gen {K : Kit} {i N kd L : Nat} {it e : Ex} {env : Vm.Env} {st : Store} {Pp : PyData → Prop} {Q : Val → Store → Prop} {E : EK} (hN : N ≤ SZ) (hit : wpR (evalI K it env st) (fun items s => items.length ≤ N ∧ DS kd L s) E)
    (he : ∀ v s, DS kd L s → wpR (evalX K e (env.set i (some v)) s) (fun x s2 => ∃ d, x = .p d ∧ Pp d ∧ DS kd L s2) (fun _ _ _ => False)) (q : ∀ ds s, ds.length ≤ N → (∀ d ∈ ds, Pp d) → DS kd L s → Q (.p (.list ds)) s) : wpR (evalX K (.lc 0 [i] it .nil e) env st) Q E := by
  refine x_lc (fun items acc s => ∃ ds : List PyData, acc = ds.map .p ∧ (∀ d ∈ ds, Pp d) ∧ ds.length + items.length ≤ N ∧ DS kd L s) (hit.imp fun items s ⟨h, D⟩ => ⟨[], rfl, (fun d (hd : d ∈ ([] : List PyData)) => nomatch hd), by simpa using h, D⟩) ?_ ?_
  · rintro v vs acc s ⟨ds, rfl, hp, hl, D⟩
    refine wpO_of (a := env.set i (some v)) rfl (t_nil (wpB_t ((he v s D).imp ?_)))
    rintro x s2 ⟨d, rfl, hd, D2⟩
    refine ⟨ds ++ [d], by simp, fun e he => ?_, by simp only [List.length_append, List.length_cons, List.length_nil] at hl ⊢; omega, D2⟩
    rcases List.mem_append.mp he with he | he
    · exact hp e he
    · rw [List.mem_singleton] at he
      rw [he]
      exact hd
  · rintro acc s ⟨ds, rfl, hp, hl, D⟩
    refine ⟨by rw [List.length_map]; simp at hl; omega, ?_⟩
    unfold Vm.alloc
    simp only [mkL_map]
    exact q ds s (by simpa using hl) hp D
theorem i_rng0 {K : Kit} {a : Ex} {env : Vm.Env} {st : Store} {N kd L : Nat} {E : EK} (hN : N ≤ 4096) (h : wpR (evalX K a env st) (fun x s => ∃ j : Int, x = .p (.int j) ∧ 0 ≤ j ∧ j ≤ N ∧ DS kd L s) E) : wpR (evalI K (.rng (.con (.int 0)) a) env st) (fun items s => items.length ≤ N ∧ DS kd L s) E := by
  refine i_rng (x_con (h.imp ?_))
  rintro x s ⟨j, rfl, h0, h1, D⟩
  have p : (4096 : Int) < 2 ^ 62 := by decide
  have p2 : -(2 ^ 62 : Int) ≤ 0 := by decide
  refine ⟨0, j, rfl, rfl, ⟨p2, by omega, by omega, by omega⟩, ?_, D⟩
  unfold rangeV
  rw [List.length_map, List.length_range]
  omega
def refL : List PyData := [.str "a", .str "b", .str "a.b", .str "zz.a.b.c", .str ".", .str ".a", .str "..", .str "..a.b", .str "....", .str "....a.b.c.d", .str "b.a"]
theorem g_reference {n kd L : Nat} {s : Store} (D : DS kd L s) : wpR (runF pg (n + 3) i__law_reference [.r kd] s) (fun v s' => ∃ d, v = .p d ∧ Gd 64 0 d ∧ DS kd L s') (fun _ _ _ => False) := by
  refine f_gd rfl rfl rfl D ?_
  show wpF (execS (kitOf pg (n + 2)) pg.fields b__law_reference [some (.r kd)] s) _
  unfold b__law_reference
  exact s_ret (x_pick D rfl (is_lst (ds := refL) (by unfold refL; walk_at "ll") (by decide +kernel)) (by decide +kernel) (by decide +kernel) fun d hd s' D1 => ⟨d, rfl, gdB_mem (ds := refL) (by decide +kernel) hd, D1⟩)
def wdL : List PyData := [.str "x", .str "y", .str "a", .str "b", .str "zzzzzzzz", .str "lets"]
def numL0 : List PyData := [.int 0, .int 1, .int (-1), .int 12, .int (-100000000000000000000000000), .int 100000000000000000000000000]
def impL : List PyData := [.str "a", .str "b", .str "a.b", .str "zz.a.b.c"]
def BodyS (kd L k n : Nat) : Prop := ∀ s, DS kd L s → wpR (runF pg n i__law_body [.r kd, .p (.int 3), .p (.int (k : Int))] s) (fun v s' => ∃ d, v = .p d ∧ Gd 64 (2 * k + 3) d ∧ DS kd L s') (fun _ _ _ => False)
theorem x_ref {n kd L i : Nat} {env : Vm.Env} {s : Store} {Q : Val → Store → Prop} {E : EK} (D : DS kd L s) (he : env[i]? = some (some (.r kd))) (q : ∀ d s', Gd 64 0 d → DS kd L s' → Q (.p d) s') : wpR (evalX (kitOf pg (n + 3)) (.call i__law_reference (.cons (.var i) .nil)) env s) Q E :=
  x_call (l_cons (x_var he (l_nil (wpR.any (g_reference D) fun v s' ⟨d, e, g, D1⟩ => by rw [e]; exact q d s' g D1))))
theorem gd_str {N : Nat} (s : Str) (h : s.length ≤ 64 := by decide +kernel) : Gd 64 N (.str s) := ⟨by rw [lim]; exact decide_eq_true h, by rw [dp] <;> (intros; first | contradiction | omega)⟩
theorem g_statement {k n kd L : Nat} {s : Store} (hb : ∀ k', k = k' + 1 → BodyS kd L k' (n + 3)) (D : DS kd L s) : wpR (runF pg (n + 4) i__law_statement [.r kd, .p (.int (k : Int))] s) (fun v s' => ∃ d, v = .p d ∧ Gd 64 (2 * k + 2) d ∧ DS kd L s') (fun _ _ _ => False) := by
  refine f_gd rfl rfl rfl D ?_
  show wpF (execS (kitOf pg (n + 3)) pg.fields b__law_statement [some (.r kd), some (.p (.int (k : Int))), none, none, none, none, none] s) _
  unfold b__law_statement
  refine s_seq (asg_is (is_lst (ds := wdL) (by unfold wdL; walk_at "ll") (by decide +kernel)) ?_)
  show wpF (execS (kitOf pg (n + 3)) pg.fields _ [some (.r kd), some (.p (.int (k : Int))), some (.p (.list wdL)), none, none, none, none] s) _
  refine s_seq (s_asgT (x_tup (l_cons (x_take D rfl is_con (by decide) (by decide) fun j s1 j0 j1 D1 => l_cons (x_pick D1 rfl (is_var rfl) (by decide +kernel) (by decide +kernel) fun w hw s2 D2 => l_nil ⟨by show 2 ≤ SZ; decide, ?_⟩)))))
  have gw : Gd 64 0 w := gdB_mem (ds := wdL) (by decide +kernel) hw
  refine wpO_of (a := [some (.r kd), some (.p (.int (k : Int))), some (.p (.list wdL)), some (.p (.int j)), some (.p w), none, none]) rfl ?_
  dsimp only
  refine s_seq (s_asg (x_bi (l_cons (x_gen (N := 6) (Pp := Gd 64 0) (by decide) (i_rng0 (by decide) (x_bin (x_con (x_take D2 rfl is_con (by decide) (by decide) fun i s3 i0 i1 D3 => wpO_of (a := .p (.int (1 + i))) rfl ⟨1 + i, rfl, by omega, by omega, D3⟩)))) (fun v s3 D3 => x_pick D3 rfl (is_var rfl) (by decide +kernel) (by decide +kernel) fun d hd s4 D4 => ⟨d, rfl, gdB_mem (ds := wdL) (by decide +kernel) hd, D4⟩) fun ps s3 pl pg' D3 => l_nil (wpO_of (a := .p (.tuple ps)) rfl ?_)))))
  show wpF (execS (kitOf pg (n + 3)) pg.fields _ [some (.r kd), some (.p (.int (k : Int))), some (.p (.list wdL)), some (.p (.int j)), some (.p w), some (.p (.tuple ps)), none] s3) _
  have up : ∀ {d N}, Gd 64 N d → N ≤ 2 * k + 1 → Gd 64 (2 * k + 1) d := fun h h2 => h.up (Nat.le_refl _) h2
  have u0 : ∀ {d}, Gd 64 0 d → Gd 64 (2 * k + 1) d := fun h => up h (Nat.zero_le _)
  have gp : Gd 64 (2 * k + 1) (.tuple ps) := up (Gd.mk (N := 0) (by omega) pg') (by omega)
  have e3 : ∀ i : Int, Is (kitOf pg (n + 3)) (.cmp .eq (.var 3) (.con (.int i))) [some (.r kd), some (.p (.int (k : Int))), some (.p (.list wdL)), some (.p (.int j)), some (.p w), some (.p (.tuple ps)), none] s3 (.p (.bool (j == i))) := fun i => is_eqI (is_var rfl) is_con
  refine s_seq (if_is (e3 0) (fun _ => s_ret (x_tup (l_cons (x_con (l_cons (x_var rfl (l_cons (x_pick D3 rfl (is_lst (ds := numL0) (by unfold numL0; walk_at "ll") (by decide +kernel)) (by decide +kernel) (by decide +kernel) fun d hd s4 D4 => l_nil ⟨by show 3 ≤ SZ; decide, _, rfl, Gd.mk (by show 3 ≤ 64; decide) (gd_cons (gd_str _) (gd_cons (u0 gw) (gd_cons (u0 (gdB_mem (ds := numL0) (by decide +kernel) hd)) gd_nil))), D4⟩)))))))) fun _ => s_skip ?_)
  dsimp only
  refine s_seq (if_is (e3 1) (fun _ => s_ret (x_tup (l_cons (x_con (l_cons (x_pick D3 rfl (is_lst (ds := impL) (by unfold impL; walk_at "ll") (by decide +kernel)) (by decide +kernel) (by decide +kernel) fun d hd s4 D4 => l_nil ⟨by show 2 ≤ SZ; decide, _, rfl, Gd.mk (by show 2 ≤ 64; decide) (gd_cons (gd_str _) (gd_cons (u0 (gdB_mem (ds := impL) (by decide +kernel) hd)) gd_nil)), D4⟩)))))) fun _ => s_skip ?_)
  dsimp only
  refine s_seq (if_is (e3 2) (fun _ => s_ret (x_tup (l_cons (x_con (l_cons (x_ref D3 rfl fun d s4 gd D4 => l_cons (x_var rfl (l_nil ⟨by show 3 ≤ SZ; decide, _, rfl, Gd.mk (by show 3 ≤ 64; decide) (gd_cons (gd_str _) (gd_cons (u0 gd) (gd_cons (u0 gw) gd_nil))), D4⟩)))))))) fun _ => s_skip ?_)
  dsimp only
  refine s_seq (if_is (e3 3) (fun _ => s_ret (x_tup (l_cons (x_con (l_cons (x_ref D3 rfl fun d s4 gd D4 => l_cons (x_var rfl (l_cons (x_pick D4 rfl (is_var rfl) (by decide +kernel) (by decide +kernel) fun d2 hd2 s5 D5 => l_nil ⟨by show 4 ≤ SZ; decide, _, rfl, Gd.mk (by show 4 ≤ 64; decide) (gd_cons (gd_str _) (gd_cons (u0 gd) (gd_cons (u0 gw) (gd_cons (u0 (gdB_mem (ds := wdL) (by decide +kernel) hd2)) gd_nil)))), D5⟩))))))))) fun _ => s_skip ?_)
  dsimp only
  refine s_seq (if_is (e3 4) (fun _ => s_ret (x_tup (l_cons (x_con (l_cons (x_ref D3 rfl fun d s4 gd D4 => l_nil ⟨by show 2 ≤ SZ; decide, _, rfl, Gd.mk (by show 2 ≤ 64; decide) (gd_cons (gd_str _) (gd_cons (u0 gd) gd_nil)), D4⟩)))))) fun _ => s_skip ?_)
  dsimp only
  refine s_seq (if_is (e3 5) (fun _ => s_ret (x_tup (l_cons (x_con (l_cons (x_var rfl (l_nil ⟨by show 2 ≤ SZ; decide, _, rfl, Gd.mk (by show 2 ≤ 64; decide) (gd_cons (gd_str _) (gd_cons gp gd_nil)), D3⟩))))))) fun _ => s_skip ?_)
  dsimp only
  refine s_seq (if_is (e3 6) (fun _ => s_ret (x_tup (l_cons (x_con (l_cons (x_var rfl (l_cons (x_var rfl (l_nil ⟨by show 3 ≤ SZ; decide, _, rfl, Gd.mk (by show 3 ≤ 64; decide) (gd_cons (gd_str _) (gd_cons gp (gd_cons (u0 gw) gd_nil))), D3⟩))))))))) fun _ => s_skip ?_)
  dsimp only
  refine s_seq (if_is (e3 7) (fun _ => s_ret (x_tup (l_cons (x_con (l_cons (x_var rfl (l_nil ⟨by show 2 ≤ SZ; decide, _, rfl, Gd.mk (by show 2 ≤ 64; decide) (gd_cons (gd_str _) (gd_cons gp gd_nil)), D3⟩))))))) fun _ => s_skip ?_)
  dsimp only
  refine s_seq (if_is (e3 8) (fun _ => s_ret (x_tup (l_cons (x_con (l_cons (x_var rfl (l_nil ⟨by show 2 ≤ SZ; decide, _, rfl, Gd.mk (by show 2 ≤ 64; decide) (gd_cons (gd_str _) (gd_cons (u0 gw) gd_nil)), D3⟩))))))) fun _ => s_skip ?_)
  dsimp only
  refine s_seq (if_is (is_or (e3 9) fun _ => is_eqI (is_var (i := 1) rfl) (is_con (d := .int 0))) (fun _ => s_ret (x_tup (l_cons (x_con (l_nil ⟨by show 1 ≤ SZ; decide, _, rfl, Gd.mk (by show 1 ≤ 64; decide) (gd_cons (gd_str _) gd_nil), D3⟩))))) fun z => s_skip ?_)
  dsimp only
  obtain ⟨k, rfl⟩ : ∃ k', k = k' + 1 := by
    rw [Bool.or_eq_false_iff] at z
    have := z.2
    rw [beq_eq_false_iff_ne] at this
    exact ⟨k - 1, by omega⟩
  have hs : ((k + 1 : Nat) : Int) - 1 = (k : Int) := by omega
  have sb : ∀ s4, Is (kitOf pg (n + 3)) (.bin .sub (.var 1) (.con (.int 1))) [some (.r kd), some (.p (.int ((k + 1 : Nat) : Int))), some (.p (.list wdL)), some (.p (.int j)), some (.p w), some (.p (.tuple ps)), none] s4 (.p (.int (k : Int))) := fun s4 => by
    have := is_sub (K := kitOf pg (n + 3)) (st := s4) (is_var (i := 1) (env := [some (.r kd), some (.p (.int ((k + 1 : Nat) : Int))), some (.p (.list wdL)), some (.p (.int j)), some (.p w), some (.p (.tuple ps)), none]) rfl) (is_con (d := .int 1))
    rwa [hs] at this
  have B := hb k rfl
  refine s_ret (x_tup (l_cons (x_con (l_cons (x_call (l_cons (x_var rfl (l_cons (x_con (l_cons ((sb _).wp (l_nil (wpR.any (B _ D3) ?_)))))))))))))
  rintro v s4 ⟨d, rfl, gd, D4⟩
  refine l_cons (x_call (l_cons (x_var rfl (l_cons (x_con (l_cons ((sb _).wp (l_nil (wpR.any (B _ D4) ?_)))))))))
  rintro v s5 ⟨d2, rfl, gd2, D5⟩
  exact l_nil ⟨by show 3 ≤ SZ; decide, _, rfl, Gd.mk (by show 3 ≤ 64; decide) (gd_cons (gd_str _) (gd_cons (up gd (by omega)) (gd_cons (up gd2 (by omega)) gd_nil))), D5⟩
theorem g_body {k n kd L : Nat} {s : Store} {most : Int} (h0 : 0 ≤ most) (h1 : most ≤ 60) (hs : ∀ s, DS kd L s → wpR (runF pg (n + 1) i__law_statement [.r kd, .p (.int (k : Int))] s) (fun v s' => ∃ d, v = .p d ∧ Gd 64 (2 * k + 2) d ∧ DS kd L s') (fun _ _ _ => False)) (D : DS kd L s) : wpR (runF pg (n + 2) i__law_body [.r kd, .p (.int most), .p (.int (k : Int))] s) (fun v s' => ∃ d, v = .p d ∧ Gd 64 (2 * k + 3) d ∧ DS kd L s') (fun _ _ _ => False) := by
  refine f_gd rfl rfl rfl D ?_
  show wpF (execS (kitOf pg (n + 1)) pg.fields b__law_body [some (.r kd), some (.p (.int most)), some (.p (.int (k : Int))), none] s) _
  unfold b__law_body
  refine s_ret (x_bi (l_cons (x_gen (N := 60) (Pp := Gd 64 (2 * k + 2)) (by decide) (i_rng0 (by decide) (x_take D rfl (is_add (is_var rfl) is_con) (by omega) (by omega) fun j s1 j0 j1 D1 => ⟨j, rfl, j0, by omega, D1⟩)) (fun v s1 D1 => x_call (l_cons (x_var rfl (l_cons (x_var rfl (l_nil (hs _ D1))))))) fun ds s1 l g D1 => l_nil (wpO_of (a := .p (.tuple ds)) rfl ⟨_, rfl, Gd.mk (by omega) g, D1⟩))))
theorem g_bodyS {kd L : Nat} : ∀ (k n : Nat), 2 * k + 5 ≤ n → (∀ s, DS kd L s → wpR (runF pg (n + 1) i__law_statement [.r kd, .p (.int (k : Int))] s) (fun v s' => ∃ d, v = .p d ∧ Gd 64 (2 * k + 2) d ∧ DS kd L s') (fun _ _ _ => False)) ∧ BodyS kd L k (n + 2) := by
  intro k
  induction k with
  | zero =>
    intro n hn
    obtain ⟨n, rfl⟩ : ∃ m, n = m + 3 := ⟨n - 3, by omega⟩
    have h1 : ∀ s, DS kd L s → wpR (runF pg (n + 3 + 1) i__law_statement [.r kd, .p (.int ((0 : Nat) : Int))] s) (fun v s' => ∃ d, v = .p d ∧ Gd 64 (2 * 0 + 2) d ∧ DS kd L s') (fun _ _ _ => False) := fun s D => g_statement (fun k' e => by omega) D
    exact ⟨h1, fun s D => g_body (by decide) (by decide) h1 D⟩
  | succ k ih =>
    intro n hn
    obtain ⟨n, rfl⟩ : ∃ m, n = m + 3 := ⟨n - 3, by omega⟩
    have h1 : ∀ s, DS kd L s → wpR (runF pg (n + 3 + 1) i__law_statement [.r kd, .p (.int ((k + 1 : Nat) : Int))] s) (fun v s' => ∃ d, v = .p d ∧ Gd 64 (2 * (k + 1) + 2) d ∧ DS kd L s') (fun _ _ _ => False) := fun s D => g_statement (fun k' e => by
      have : k' = k := by omega
      subst this
      exact (ih (n + 1) (by omega)).2) D
    exact ⟨h1, fun s D => g_body (by decide) (by decide) h1 D⟩
end K05
end

section
/-! bodies bent. -/
namespace K05
open PySem Vm
local macro_rules | `(tactic| walk_at "x1") => `(tactic| first
  | (with_reducible refine x_var ?_ ?_; exact rfl) | (with_reducible refine x_con ?_) | (with_reducible refine x_glo ?_ ?_; exact rfl) | (with_reducible refine x_bin ?_) | (with_reducible refine x_and ?_) | (with_reducible refine x_or ?_) | (with_reducible refine x_not ?_)
  | (with_reducible refine x_ite ?_) | (with_reducible refine x_cmp ?_) | (with_reducible refine x_chn ?_) | (with_reducible refine x_tup ?_) | (with_reducible refine x_lst ?_) | (with_reducible refine x_idx ?_) | (with_reducible refine x_slc ?_) | (with_reducible refine x_call ?_) | (with_reducible refine x_callk ?_)
  | (with_reducible refine x_bi ?_) | (with_reducible refine x_mth ?_) | (with_reducible refine x_isi ?_) | (with_reducible refine l_nil ?_) | (with_reducible refine l_cons ?_) | (with_reducible refine o_nil ?_) | (with_reducible refine o_some ?_) | (with_reducible refine t_nil ?_) | (with_reducible refine t_some ?_)
  | (with_reducible refine s_skip ?_) | (with_reducible refine s_seq ?_) | (with_reducible refine s_asg ?_) | (with_reducible refine s_asgT ?_) | (with_reducible refine s_ex ?_) | (with_reducible refine s_ret ?_) | (with_reducible refine s_ife ?_)
  | (with_reducible refine wpO_of ?_ ?_; exact rfl) | (with_reducible refine wpO_of (isi_p ?_) ?_; exact rfl))
local macro_rules | `(tactic| walk_at "xs") => `(tactic| repeat (walk_at "x1"; try dsimp only))
local macro_rules | `(tactic| walk_at "is") => `(tactic| (refine Is.of ?_; walk_at "xs"; exact ⟨rfl, rfl⟩))





section
variable {K : Kit} {env : Vm.Env} {st : Store}
theorem is_t1 {a : Ex} {d : PyData} (h : Is K a env st (.p d)) : Is K (.tup (.cons a .nil)) env st (.p (.tuple [d])) := is_tupE (ds := [d]) (ev_cons h ev_nil) (by show 1 ≤ SZ; decide)
theorem is_t2 {a b : Ex} {d e : PyData} (h : Is K a env st (.p d)) (h2 : Is K b env st (.p e)) : Is K (.tup (.cons a (.cons b .nil))) env st (.p (.tuple [d, e])) := is_tup2 h h2
theorem is_t3 {a b c : Ex} {d e f : PyData} (h : Is K a env st (.p d)) (h2 : Is K b env st (.p e)) (h3 : Is K c env st (.p f)) : Is K (.tup (.cons a (.cons b (.cons c .nil)))) env st (.p (.tuple [d, e, f])) := is_tup3 h h2 h3
theorem is_dic0 : Is K (.dic 0 .nil) env st (.p (.dict [])) := Is.of (x_dic (l_nil (wpO_of (a := []) rfl ⟨⟨rfl, by decide⟩, wp_ok (a := Val.p (.dict [])) ⟨rfl, rfl⟩⟩)))
end
local macro_rules | `(tactic| walk_at "l1") => `(tactic| first | exact is_con | exact is_neg | exact is_pow | exact is_npow | exact is_pow1 | exact is_1pow | exact is_e0 | exact is_dic0 | exact is_t1 is_con | exact is_t2 is_con is_con | exact is_lst1 is_con | exact is_t1 (is_t1 is_con) | exact is_t1 (is_t3 is_con is_con is_con))
local macro_rules | `(tactic| walk_at "ll") => `(tactic| repeat (first | exact ev_nil | (refine ev_cons (by walk_at "l1") ?_)))
def oddA : List PyData := [.none, .bool true, .int 0, .int (-1), .int 5, .str "", .str "a", .str "x", .str "let", .str "a.b", .str ".", .str "A", .str "toolongname", .tuple [.str "a"], .tuple [], .tuple [.str "a", .str "b"], .list [.str "a"]]
def oddB : List PyData := [.int 1000000000000000000000000000000, .int (1000000000000000000000000000000 - 1), .int (-1000000000000000000000000000000), .int (1 - 1000000000000000000000000000000)]
def oddC : List PyData := [.dict [], .tuple [.tuple [.str "stop"]], .tuple [.tuple [.str "let", .str "x", .int 1]], .tuple [.str "stop"], .list [.str "stop"], .str "stop"]
theorem odd_gd : ((oddA ++ oddB) ++ oddC).all (gdB 64 2) = true := by decide +kernel
theorem g_odd {n kd L : Nat} {s : Store} (D : DS kd L s) : wpR (runF pg (n + 3) i__law_odd [.r kd] s) (fun v s' => ∃ d, v = .p d ∧ Gd 64 2 d ∧ DS kd L s') (fun _ _ _ => False) := by
  refine f_gd rfl rfl rfl D ?_
  show wpF (execS (kitOf pg (n + 2)) pg.fields b__law_odd [some (.r kd), none] s) _
  unfold b__law_odd
  refine s_seq (asg_is (is_lst (ds := oddA) (by unfold oddA; walk_at "ll") (by decide +kernel)) ?_)
  show wpF (execS (kitOf pg (n + 2)) pg.fields _ [some (.r kd), some (.p (.list oddA))] s) _
  refine s_seq (asg_is (is_addL (is_var rfl) (is_lst (ds := oddB) (by unfold oddB; walk_at "ll") (by decide +kernel)) (by decide +kernel)) ?_)
  show wpF (execS (kitOf pg (n + 2)) pg.fields _ [some (.r kd), some (.p (.list (oddA ++ oddB)))] s) _
  exact s_ret (x_pick D rfl (is_addL (is_var rfl) (is_lst (ds := oddC) (by unfold oddC; walk_at "ll") (by decide +kernel)) (by decide +kernel)) (by decide +kernel) (by decide +kernel) fun d hd s' D1 => ⟨d, rfl, gdB_mem odd_gd hd, D1⟩)
theorem cutL_to {α : Type} (xs : List α) (j : Nat) : cutL xs none (some (j : Int)) = xs.take j := by
  unfold cutL
  rw [HT.sIx_nat, HT.sIx_none, List.drop_zero, Nat.sub_zero]
  rcases Nat.le_total j xs.length with h | h
  · rw [Nat.min_eq_left h]
  · rw [Nat.min_eq_right h, List.take_length, List.take_of_length_le h]
section
variable {K : Kit} {a e : Ex} {env : Vm.Env} {st : Store} {ds : List PyData} {j : Nat}
theorem is_to (h1 : Is K a env st (.p (.tuple ds))) (h2 : Is K e env st (.p (.int (j : Int)))) : Is K (.slc a .nil (.cons e .nil)) env st (.p (.tuple (ds.take j))) := Is.of (x_slc (h1.wp (o_nil (o_some (h2.wp ⟨(j : Int), rfl, wpO_of (a := .p (.tuple (ds.take j))) (by
  show (slcD none (some (j : Int)) (.tuple ds)).map Val.p = _
  unfold slcD
  simp only [cutL_to]
  rfl) ⟨rfl, rfl⟩⟩)))))
theorem is_toL (h1 : Is K a env st (.p (.list ds))) (h2 : Is K e env st (.p (.int (j : Int)))) : Is K (.slc a .nil (.cons e .nil)) env st (.p (.list (ds.take j))) := Is.of (x_slc (h1.wp (o_nil (o_some (h2.wp ⟨(j : Int), rfl, wpO_of (a := .p (.list (ds.take j))) (by
  show (slcD none (some (j : Int)) (.list ds)).map Val.p = _
  unfold slcD
  simp only [cutL_to]
  rfl) ⟨rfl, rfl⟩⟩)))))
theorem is_from (h1 : Is K a env st (.p (.tuple ds))) (h2 : Is K e env st (.p (.int (j : Int)))) : Is K (.slc a (.cons e .nil) .nil) env st (.p (.tuple (ds.drop j))) := Is.of (x_slc (h1.wp (o_some (h2.wp ⟨(j : Int), rfl, o_nil (wpO_of (a := .p (.tuple (ds.drop j))) (by
  show (slcD (some (j : Int)) none (.tuple ds)).map Val.p = _
  unfold slcD
  simp only [cutL_from]
  rfl) ⟨rfl, rfl⟩)⟩))))
theorem is_at {d : PyData} (h1 : Is K a env st (.p (.tuple ds))) (h2 : Is K e env st (.p (.int (j : Int)))) (h : ds[j]? = some d) : Is K (.idx a e) env st (.p d) := Is.of (x_idx (h1.wp (h2.wp (wpO_of (a := .p d) (idx_tup h) ⟨rfl, rfl⟩))))
end
theorem x_addT {K : Kit} {a b : Ex} {env : Vm.Env} {st : Store} {Q : Val → Store → Prop} {E : EK} (h : wpR (evalX K a env st) (fun x s => wpR (evalX K b env s) (fun y s2 => ∃ xs ys, x = .p (.tuple xs) ∧ y = .p (.tuple ys) ∧ xs.length + ys.length ≤ SZ ∧ Q (.p (.tuple (xs ++ ys))) s2) E) E) : wpR (evalX K (.bin .add a b) env st) Q E := by
  refine x_bin (h.imp fun x s h => h.imp ?_)
  rintro y s2 ⟨xs, ys, rfl, rfl, hl, q⟩
  refine wpO_of (a := .p (.tuple (xs ++ ys))) ?_ q
  show (binD .add (.tuple xs) (.tuple ys)).map Val.p = _
  unfold binD
  simp only
  rw [if_pos hl]
  rfl
theorem x_callOdd {n kd L : Nat} {env : Vm.Env} {s : Store} {Q : Val → Store → Prop} {E : EK} (D : DS kd L s) (he : env[0]? = some (some (.r kd))) (q : ∀ d s', Gd 64 2 d → DS kd L s' → Q (.p d) s') : wpR (evalX (kitOf pg (n + 3)) (.call i__law_odd (.cons (.var 0) .nil)) env s) Q E :=
  x_call (l_cons (x_var he (l_nil (wpR.any (g_odd D) fun v s' ⟨d, e, g, D1⟩ => by rw [e]; exact q d s' g D1))))
theorem g_bent {kd L : Nat} : ∀ (N n : Nat), N + 4 ≤ n → ∀ (m : Nat) (d : PyData) (s : Store), 64 ≤ m → m ≤ 1000 → Gd m N d → DS kd L s → wpR (runF pg n i__law_bent [.r kd, .p d] s) (fun v s' => ∃ e, v = .p e ∧ Gd (m + 1) (N + 3) e ∧ DS kd L s') (fun _ _ _ => False) := by
  intro N
  induction N with
  | zero =>
    intro n hn m d s h1 h2 g D
    obtain ⟨n, rfl⟩ : ∃ k, n = k + 4 := ⟨n - 4, by omega⟩
    refine f_gd rfl rfl rfl D ?_
    show wpF (execS (kitOf pg (n + 3)) pg.fields b__law_bent [some (.r kd), some (.p d), none, none] s) _
    unfold b__law_bent
    have hd : ∀ ds, d ≠ .tuple ds := fun ds e => by
      have := g.2
      rw [e, dp] at this
      omega
    refine s_seq (if_is (t := true || true) (is_or (t1 := true) (t2 := true) (is_nisi (t := false) (is_var rfl) rfl (tyb_tup hd)) fun z => by cases z) (fun _ => s_ret (x_callOdd D rfl fun d s' g D1 => ⟨d, rfl, g.up (by omega) (by omega), D1⟩)) fun z => by cases z)
  | succ N ih =>
    intro n hn m d s h1 h2 g D
    obtain ⟨n, rfl⟩ : ∃ k, n = k + 4 := ⟨n - 4, by omega⟩
    refine f_gd rfl rfl rfl D ?_
    show wpF (execS (kitOf pg (n + 3)) pg.fields b__law_bent [some (.r kd), some (.p d), none, none] s) _
    unfold b__law_bent
    by_cases hd : ∀ ds, d ≠ .tuple ds
    · exact s_seq (if_is (t := true || true) (is_or (t1 := true) (t2 := true) (is_nisi (t := false) (is_var rfl) rfl (tyb_tup hd)) fun z => by cases z) (fun _ => s_ret (x_callOdd D rfl fun d s' g D1 => ⟨d, rfl, g.up (by omega) (by omega), D1⟩)) fun z => by cases z)
    obtain ⟨ds, rfl⟩ : ∃ ds, d = .tuple ds := Classical.byContradiction fun h => hd fun ds e => h ⟨ds, e⟩
    obtain ⟨hl, hg⟩ := g.tup
    cases hne : ds.isEmpty with
    | true => exact s_seq (if_is (t := false || (true || true)) (is_or (t1 := false) (t2 := true || true) (is_nisi (t := true) (is_var rfl) rfl rfl) fun _ => is_or (t1 := true) (t2 := true) (is_eqEmp (is_var rfl) hne) fun z => by cases z) (fun _ => s_ret (x_callOdd D rfl fun d s' g D1 => ⟨d, rfl, g.up (by omega) (by omega), D1⟩)) fun z => by cases z)
    | false =>
      have hp : 0 < ds.length := by
        cases ds with
        | nil => cases hne
        | cons a l => simp
      have sz : SZ = 16777216 := rfl
      have ge : ∀ d ∈ ds, Gd (m + 1) (N + 3) d := fun d hd => Gd.up (m := m) (N := N) ⟨(hg d hd).1, by have := (hg d hd).2; omega⟩ (by omega) (by omega)
      refine s_seq (s_ife (t_some (x_or ((is_nisi (t := true) (d := .tuple ds) (is_var rfl) rfl rfl).wp (wpO_of (a := false) rfl (wpB_f ?_))))))
      refine x_or ((is_eqEmp (is_var rfl) hne).wp (wpO_of (a := false) rfl (wpB_f ?_)))
      refine x_cmp (x_take (size := 8) D rfl is_con (by decide) (by decide) fun j s1 j0 j1 D1 => x_con ?_)
      refine wpO_of (a := j == 0) (eq_ints j 0) (wpO_of (a := j == 0) rfl (wpB_mk (fun _ => s_ret (x_callOdd D1 rfl fun d s' g D1 => ⟨d, rfl, g.up (by omega) (by omega), D1⟩)) fun _ => s_skip ?_))
      clear j0 j1
      dsimp only
      refine s_seq (s_asgT (x_tup (l_cons (x_take D1 rfl (len_tup (is_var rfl)) (by omega) (by omega) fun i s2 i0 i1 D2 => l_cons (x_take D2 rfl is_con (by decide) (by decide) fun w s3 w0 w1 D3 => l_nil ⟨by show 2 ≤ SZ; decide, ?_⟩)))))
      obtain ⟨i, rfl⟩ : ∃ k : Nat, i = k := ⟨i.toNat, by omega⟩
      refine wpO_of (a := [some (.r kd), some (.p (.tuple ds)), some (.p (.int (i : Int))), some (.p (.int w))]) rfl ?_
      dsimp only
      obtain ⟨x, hx⟩ : ∃ x, ds[i]? = some x := ⟨_, List.getElem?_eq_getElem (by omega)⟩
      have hxm := List.mem_of_getElem? hx
      have V1 : ∀ {s}, Is (kitOf pg (n + 3)) (.var 1) [some (.r kd), some (.p (.tuple ds)), some (.p (.int (i : Int))), some (.p (.int w))] s (.p (.tuple ds)) := is_var rfl
      have V2 : ∀ {s}, Is (kitOf pg (n + 3)) (.var 2) [some (.r kd), some (.p (.tuple ds)), some (.p (.int (i : Int))), some (.p (.int w))] s (.p (.int (i : Int))) := is_var rfl
      have V2' : ∀ {s}, Is (kitOf pg (n + 3)) (.bin .add (.var 2) (.con (.int 1))) [some (.r kd), some (.p (.tuple ds)), some (.p (.int (i : Int))), some (.p (.int w))] s (.p (.int ((i + 1 : Nat) : Int))) := is_add V2 is_con
      have tk : ∀ k d, d ∈ ds.take k → Gd (m + 1) (N + 3) d := fun k d h => ge d (List.mem_of_mem_take h)
      have dr : ∀ k d, d ∈ ds.drop k → Gd (m + 1) (N + 3) d := fun k d h => ge d (List.mem_of_mem_drop h)
      have e3 : ∀ i' : Int, Is (kitOf pg (n + 3)) (.cmp .eq (.var 3) (.con (.int i'))) [some (.r kd), some (.p (.tuple ds)), some (.p (.int (i : Int))), some (.p (.int w))] s3 (.p (.bool (w == i'))) := fun i => is_eqI (is_var rfl) is_con
      have app : ∀ {xs ys : List PyData}, (∀ d ∈ xs, Gd (m + 1) (N + 3) d) → (∀ d ∈ ys, Gd (m + 1) (N + 3) d) → ∀ d ∈ xs ++ ys, Gd (m + 1) (N + 3) d := fun h1 h2 d hd => by
        rcases List.mem_append.mp hd with h | h
        · exact h1 d h
        · exact h2 d h
      refine s_seq (if_is (e3 0) (fun _ => ret_is (is_addT (is_to V1 V2) (is_from V1 V2') (by simp only [List.length_take, List.length_drop]; omega)) ⟨_, rfl, Gd.mk (by simp only [List.length_append, List.length_take, List.length_drop]; omega) (app (tk _) (dr _)), D3⟩) fun _ => s_skip ?_)
      dsimp only
      refine s_seq (if_is (e3 1) (fun _ => ret_is (is_addT (is_addT (is_to V1 V2) (is_t1 (is_at V1 V2 hx)) (by simp only [List.length_take, List.length_cons, List.length_nil]; omega)) (is_from V1 V2) (by simp only [List.length_append, List.length_take, List.length_drop, List.length_cons, List.length_nil]; omega)) ⟨_, rfl, Gd.mk (by simp only [List.length_append, List.length_take, List.length_drop, List.length_cons, List.length_nil]; omega) (app (app (tk _) (gd_cons (ge x hxm) gd_nil)) (dr _)), D3⟩) fun _ => s_skip ?_)
      dsimp only
      refine s_seq (if_is (e3 2) (fun _ => ret_is (is_listT V1) ⟨_, rfl, Gd.mkL (by omega) ge, D3⟩) fun _ => s_skip ?_)
      dsimp only
      refine s_ret (x_addT (x_addT ((is_to V1 V2).wp (x_tup (l_cons (x_call (l_cons (x_var rfl (l_cons ((is_at V1 V2 hx).wp (l_nil (wpR.any (ih (n + 3) (by omega) m x s3 h1 h2 ⟨(hg x hxm).1, by have := (hg x hxm).2; omega⟩ D3) ?_))))))))))))
      rintro v s4 ⟨y, rfl, gy, D4⟩
      exact l_nil ⟨by show 1 ≤ SZ; decide, _, [y], rfl, rfl, by simp only [List.length_take, List.length_cons, List.length_nil]; omega, (is_from V1 V2').wp ⟨_, _, rfl, rfl, by simp only [List.length_append, List.length_take, List.length_drop, List.length_cons, List.length_nil]; omega, _, rfl, Gd.mk (by simp only [List.length_append, List.length_take, List.length_drop, List.length_cons, List.length_nil]; omega) (app (app (tk _) (gd_cons gy gd_nil)) (dr _)), D4⟩⟩
end K05
end

section
/-! long bodies, the start. -/
namespace K05
open PySem Vm
local macro_rules | `(tactic| walk_at "x1") => `(tactic| first
  | (with_reducible refine x_var ?_ ?_; exact rfl) | (with_reducible refine x_con ?_) | (with_reducible refine x_glo ?_ ?_; exact rfl) | (with_reducible refine x_bin ?_) | (with_reducible refine x_and ?_) | (with_reducible refine x_or ?_) | (with_reducible refine x_not ?_)
  | (with_reducible refine x_ite ?_) | (with_reducible refine x_cmp ?_) | (with_reducible refine x_chn ?_) | (with_reducible refine x_tup ?_) | (with_reducible refine x_lst ?_) | (with_reducible refine x_idx ?_) | (with_reducible refine x_slc ?_) | (with_reducible refine x_call ?_) | (with_reducible refine x_callk ?_)
  | (with_reducible refine x_bi ?_) | (with_reducible refine x_mth ?_) | (with_reducible refine x_isi ?_) | (with_reducible refine l_nil ?_) | (with_reducible refine l_cons ?_) | (with_reducible refine o_nil ?_) | (with_reducible refine o_some ?_) | (with_reducible refine t_nil ?_) | (with_reducible refine t_some ?_)
  | (with_reducible refine s_skip ?_) | (with_reducible refine s_seq ?_) | (with_reducible refine s_asg ?_) | (with_reducible refine s_asgT ?_) | (with_reducible refine s_ex ?_) | (with_reducible refine s_ret ?_) | (with_reducible refine s_ife ?_)
  | (with_reducible refine wpO_of ?_ ?_; exact rfl) | (with_reducible refine wpO_of (isi_p ?_) ?_; exact rfl))
local macro_rules | `(tactic| walk_at "xs") => `(tactic| repeat (walk_at "x1"; try dsimp only))
local macro_rules | `(tactic| walk_at "is") => `(tactic| (refine Is.of ?_; walk_at "xs"; exact ⟨rfl, rfl⟩))





theorem x_genV {K : Kit} {i N kd L : Nat} {it e : Ex} {env : Vm.Env} {st : Store} {Pv : Val → Prop} {Pp : PyData → Prop} {Q : Val → Store → Prop} {E : EK} (hN : N ≤ SZ) (hit : wpR (evalI K it env st) (fun items s => items.length ≤ N ∧ (∀ v ∈ items, Pv v) ∧ DS kd L s) E)
    (he : ∀ v s, Pv v → DS kd L s → wpR (evalX K e (env.set i (some v)) s) (fun x s2 => ∃ d, x = .p d ∧ Pp d ∧ DS kd L s2) (fun _ _ _ => False)) (q : ∀ ds s, ds.length ≤ N → (∀ d ∈ ds, Pp d) → DS kd L s → Q (.p (.list ds)) s) : wpR (evalX K (.lc 0 [i] it .nil e) env st) Q E := by
  refine x_lc (fun items acc s => ∃ ds : List PyData, acc = ds.map .p ∧ (∀ d ∈ ds, Pp d) ∧ ds.length + items.length ≤ N ∧ (∀ v ∈ items, Pv v) ∧ DS kd L s) (hit.imp fun items s ⟨h, hv, D⟩ => ⟨[], rfl, (fun d (hd : d ∈ ([] : List PyData)) => nomatch hd), by simpa using h, hv, D⟩) ?_ ?_
  · rintro v vs acc s ⟨ds, rfl, hp, hl, hv, D⟩
    refine wpO_of (a := env.set i (some v)) rfl (t_nil (wpB_t ((he v s (hv v (List.mem_cons_self ..)) D).imp ?_)))
    rintro x s2 ⟨d, rfl, hd, D2⟩
    refine ⟨ds ++ [d], by simp, fun e he => ?_, by simp only [List.length_append, List.length_cons, List.length_nil] at hl ⊢; omega, fun w hw => hv w (List.mem_cons_of_mem _ hw), D2⟩
    rcases List.mem_append.mp he with he | he
    · exact hp e he
    · rw [List.mem_singleton] at he
      rw [he]
      exact hd
  · rintro acc s ⟨ds, rfl, hp, hl, hv, D⟩
    refine ⟨by rw [List.length_map]; simp at hl; omega, ?_⟩
    unfold Vm.alloc
    simp only [mkL_map]
    exact q ds s (by simpa using hl) hp D
theorem is_min {K : Kit} {a b : Ex} {env : Vm.Env} {st : Store} {i j : Int} (h1 : Is K a env st (.p (.int i))) (h2 : Is K b env st (.p (.int j))) : Is K (.bi .min2 (.cons a (.cons b .nil))) env st (.p (.int (if j < i then j else i))) := Is.of (x_bi (l_cons (h1.wp (l_cons (h2.wp (l_nil (wpO_of rfl ⟨rfl, rfl⟩)))))))
theorem mulL_ok (d : PyData) (i : Int) (h0 : 0 ≤ i) (h : i ≤ 1000) : binD .mul (.list [d]) (.int i) = some (.list (List.replicate i.toNat d)) := by
  have sz : SZ = 16777216 := rfl
  have h1 : -(2 ^ 63 : Int) ≤ i := by
    have p1 : -(2 ^ 63 : Int) ≤ 0 := by decide
    omega
  have h2 : i < 2 ^ 63 := by
    have p2 : (1000 : Int) < 2 ^ 63 := by decide
    omega
  have h3 : [d].length * i.toNat ≤ SZ := by
    rw [List.length_singleton]
    omega
  have e : ∀ k : Nat, (List.replicate k [d]).flatten = List.replicate k d := by
    intro k
    induction k with
    | zero => rfl
    | succ k ih => rw [List.replicate_succ, List.flatten_cons, ih, List.replicate_succ]; rfl
  unfold binD
  simp only
  rw [if_pos ⟨h1, h2, h3⟩, e]
theorem is_mulL {K : Kit} {a b : Ex} {env : Vm.Env} {st : Store} {d : PyData} {i : Int} (h1 : Is K a env st (.p (.list [d]))) (h2 : Is K b env st (.p (.int i))) (h0 : 0 ≤ i) (h : i ≤ 1000) : Is K (.bin .mul a b) env st (.p (.list (List.replicate i.toNat d))) := by
  refine Is.of (x_bin (h1.wp (h2.wp ?_)))
  refine wpO_of (a := .p (.list (List.replicate i.toNat d))) ?_ ⟨rfl, rfl⟩
  simp only [see_p]
  unfold binV
  simp only
  rw [mulL_ok d i h0 h]
  rfl
theorem gd_int {m N : Nat} (i : Int) : Gd m N (.int i) := ⟨by rw [lim] <;> (intros; contradiction), by rw [dp] <;> (intros; first | contradiction | omega)⟩
theorem g_long {n kd L : Nat} {s : Store} (D : DS kd L s) : wpR (runF pg (n + 2) i__law_long [.r kd] s) (fun v s' => ∃ d, v = .p d ∧ Gd 64 9 d ∧ DS kd L s') (fun _ _ _ => False) := by
  have sz : SZ = 16777216 := rfl
  refine f_gd rfl rfl rfl D ?_
  show wpF (execS (kitOf pg (n + 1)) pg.fields b__law_long [some (.r kd), none, none, none, none, none] s) _
  unfold b__law_long
  refine s_seq (s_asgT (x_tup (l_cons (x_bin (x_con (x_take (size := 5) D rfl is_con (by decide) (by decide) fun j s1 j0 j1 D1 => ?_))))))
  refine wpO_of (a := .p (.int (38 + j))) rfl (l_cons (x_take (size := 20) D1 rfl is_con (by decide) (by decide) fun r s2 r0 r1 D2 => l_nil ⟨by show 2 ≤ SZ; decide, ?_⟩))
  refine wpO_of (a := [some (.r kd), some (.p (.int (38 + j))), some (.p (.int r)), none, none, none]) rfl ?_
  dsimp only
  refine s_seq (s_asg (x_bi (l_cons (x_genV (kd := kd) (L := L) (N := 20) (Pv := fun v => ∃ i : Int, v = .p (.int i)) (Pp := Gd 64 1) (by decide) ?_ ?_ fun ds s3 l g D3 => l_nil (wpO_of (a := .p (.tuple ds)) rfl ?_)))))
  · refine i_rng (x_con (x_var rfl ?_))
    have p : (4096 : Int) < 2 ^ 62 := by decide
    have p2 : -(2 ^ 62 : Int) ≤ 0 := by decide
    refine ⟨0, r, rfl, rfl, ⟨p2, by omega, by omega, by omega⟩, ?_, ?_, D2⟩
    · unfold rangeV
      rw [List.length_map, List.length_range]
      omega
    · intro v hv
      unfold rangeV at hv
      obtain ⟨k, _, rfl⟩ := List.mem_map.mp hv
      exact ⟨_, rfl⟩
  · rintro v s3 ⟨i, rfl⟩ D3
    exact (is_t3 is_con is_con (is_var rfl)).wp ⟨_, rfl, Gd.mk (N := 0) (by show 3 ≤ 64; decide) (gd_cons (gd_str "let") (gd_cons (gd_str "x") (gd_cons (gd_int i) gd_nil))), D3⟩
  · show wpF (execS (kitOf pg (n + 1)) pg.fields _ [some (.r kd), some (.p (.int (38 + j))), some (.p (.int r)), some (.p (.tuple ds)), none, none] s3) _
    refine s_seq (asg_is (is_sub (is_sub (is_sub (is_var rfl) is_con) (is_var rfl)) (is_min (is_var rfl) is_con)) ?_)
    obtain ⟨k, hk⟩ : ∃ k : Int, 38 + j - 1 - r - (if 3 < r then 3 else r) = k := ⟨_, rfl⟩
    have hk2 : 0 ≤ k ∧ k ≤ 41 := by
      rw [← hk]
      split <;> omega
    rw [hk]
    show wpF (execS (kitOf pg (n + 1)) pg.fields _ [some (.r kd), some (.p (.int (38 + j))), some (.p (.int r)), some (.p (.tuple ds)), none, some (.p (.int k))] s3) _
    have V3 : Is (kitOf pg (n + 1)) (.var 3) [some (.r kd), some (.p (.int (38 + j))), some (.p (.int r)), some (.p (.tuple ds)), none, some (.p (.int k))] s3 (.p (.tuple ds)) := is_var rfl
    refine ret_is (is_addT (is_addT V3 (is_t1 (is_t3 is_con (is_to (j := 3) V3 is_con) is_e0)) (by simp only [List.length_cons, List.length_nil]; omega)) (is_tupL (is_mulL (is_lst1 (is_t1 is_con)) (is_var rfl) hk2.1 (by omega))) (by simp only [List.length_append, List.length_replicate, List.length_cons, List.length_nil]; omega)) ⟨_, rfl, Gd.up (m := 64) (N := 3 + 1) (Gd.mk (by simp only [List.length_append, List.length_replicate, List.length_cons, List.length_nil]; omega) fun d hd => ?_) (Nat.le_refl _) (by decide), D3⟩
    rcases List.mem_append.mp hd with hd | hd
    · rcases List.mem_append.mp hd with hd | hd
      · exact (g d hd).up (Nat.le_refl _) (by decide)
      · rw [List.mem_singleton] at hd
        rw [hd]
        exact Gd.mk (by show 3 ≤ 64; decide) (gd_cons (gd_str "try") (gd_cons (Gd.mk (N := 1) (by simp only [List.length_take]; omega) fun d hd => g d (List.mem_of_mem_take hd)) (gd_cons (Gd.mk (N := 1) (by show 0 ≤ 64; decide) gd_nil) gd_nil)))
    · rw [List.eq_of_mem_replicate hd]
      exact Gd.up (m := 64) (N := 0 + 1) (Gd.mk (by show 1 ≤ 64; decide) (gd_cons (gd_str "stop") gd_nil)) (Nat.le_refl _) (by decide)
theorem g_begin {n : Nat} {ns : List Int} (hn : ns.length ≤ 63) : wpR (runF pg (n + 1) i__law_begin [.p (.list (ns.map .int))] []) (fun v s => ∃ kd L, v = .r kd ∧ DS kd L s) (fun _ _ _ => False) := by
  have sz : SZ = 16777216 := rfl
  have key : wpF (execS (kitOf pg n) pg.fields b__law_begin [some (.p (.list (ns.map .int))), none] []) { nx := fun _ _ => False, rt := fun v s => ∃ kd L, v = .r kd ∧ DS kd L s } := by
    unfold b__law_begin
    have c1 : Is (kitOf pg n) (.slc (.var 0) .nil (.cons (.con (.int 63)) .nil)) [some (.p (.list (ns.map .int))), none] [] (.p (.list ((ns.map .int).take 63))) := is_toL (j := 63) (is_var rfl) is_con
    have fin : ∀ (kc : Nat) (is : List Int) (s : Store) , is ≠ [] → (∀ i ∈ is, 0 ≤ i) → s[kc]? = some (.pl (is.map .int)) → WFs s → wpR (alloc 2 [.r kc, .p (.int 0), .p (.int 1), .p (.int 0)] s) (fun v s => ∃ kd L, v = .r kd ∧ DS kd L s) (fun _ _ _ => False) := fun kc is s h1 h2 h3 wf => by
      have hk := lt_of_get h3
      refine wp_ok (a := Val.r s.length) (s := s ++ [Cell.ml [.r kc, .p (.int 0), .p (.int 1), .p (.int 0)]]) ⟨s.length, s.length + 1, rfl, kc, is, 0, 1, 0, ⟨by simp, by rw [List.getElem?_append_left hk]; exact h3, wf.app ?_, by simp⟩, ⟨h1, h2, by decide, by decide, by decide, by decide⟩⟩
      simp [cellBelow, belowL, below]
      omega
    refine s_ret (x_lst (l_cons (x_or (x_lc (fun items acc s => ∃ is ms : List Int, items = ms.map (fun i => Val.p (.int i)) ∧ acc = is.map (fun i => Val.p (.int i)) ∧ (∀ i ∈ is, 0 ≤ i) ∧ is.length + ms.length ≤ 63 ∧ s = []) ?_ ?_ ?_))))
    · refine (i_lst c1).imp ?_
      rintro items s ⟨rfl, rfl⟩
      refine ⟨[], ns.take 63, by rw [← List.map_take, List.map_map]; rfl, rfl, (fun i (hi : i ∈ ([] : List Int)) => nomatch hi), by simp only [List.length_nil, List.length_take]; omega, rfl⟩
    · rintro v vs acc s ⟨is, ms, hm, rfl, hi, hl, rfl⟩
      cases ms with
      | nil => cases hm
      | cons m ms =>
        rw [List.map_cons] at hm
        cases hm
        refine wpO_of (a := [some (.p (.list (ns.map .int))), some (.p (.int m))]) rfl (t_nil (wpB_t (x_bi (l_cons (x_var rfl (l_nil (wpO_of (a := .p (.int (if m < 0 then -m else m))) rfl ?_)))))))
        refine ⟨is ++ [if m < 0 then -m else m], ms, rfl, by simp, fun i h => ?_, by simp only [List.length_append, List.length_cons, List.length_nil] at hl ⊢; omega, rfl⟩
        rcases List.mem_append.mp h with h | h
        · exact hi i h
        · rw [List.mem_singleton] at h
          rw [h]
          split <;> omega
    · rintro acc s ⟨is, ms, hm, rfl, hi, hl, rfl⟩
      refine ⟨by rw [List.length_map]; omega, ?_⟩
      have e1 : is.map (fun i => Val.p (.int i)) = (is.map PyData.int).map Val.p := by rw [List.map_map]; rfl
      rw [e1]
      unfold Vm.alloc
      simp only [unPs_map]
      refine wp_ok ?_
      have e2 : see ([] ++ [Cell.pl (is.map PyData.int)]) (.r ([] : Store).length) = .p (.list (is.map .int)) := rfl
      rw [e2]
      cases is with
      | nil =>
        refine wpO_of (a := false) rfl (wpB_f (x_lst (l_cons (x_con (l_nil ⟨by show 1 ≤ SZ; decide, wp_ok (a := Val.r 1) (s := [.pl [], .pl [.int 7]]) ?_⟩)))))
        exact l_cons (x_con (l_cons (x_con (l_cons (x_con (l_nil ⟨by show 4 ≤ SZ; decide, fin 1 [7] _ (by decide) (by decide) rfl rfl⟩))))))
      | cons i is =>
        refine wpO_of (a := true) rfl (wpB_t ?_)
        exact l_cons (x_con (l_cons (x_con (l_cons (x_con (l_nil ⟨by show 4 ≤ SZ; decide, fin 0 (i :: is) _ (by simp) hi rfl rfl⟩))))))
  rw [runF]
  show wpR (match execS (kitOf pg n) pg.fields b__law_begin [some (.p (.list (ns.map .int))), none] [] with
        | .rt v s1 => leave true 0 v s1
        | .nx _ s1 => leave true 0 (.p .none) s1
        | .er c fs _ s1 => leaveE true 0 c fs s1
        | .bk _ _ => .no
        | .ct _ _ => .no
        | .no => .no) _ _
  revert key
  cases execS (kitOf pg n) pg.fields b__law_begin [some (.p (.list (ns.map .int))), none] [] with
  | nx e1 s => exact fun h => h.elim
  | rt v s => exact fun h => h
  | er c fs e1 s => exact fun h => h.elim
  | bk e1 s => exact fun h => h.elim
  | ct e1 s => exact fun h => h.elim
  | no => exact fun h => h.elim
end K05
end

section
/-! bodies shown. -/
namespace K05
open PySem Vm
local macro_rules | `(tactic| walk_at "x1") => `(tactic| first
  | (with_reducible refine x_var ?_ ?_; exact rfl) | (with_reducible refine x_con ?_) | (with_reducible refine x_glo ?_ ?_; exact rfl) | (with_reducible refine x_bin ?_) | (with_reducible refine x_and ?_) | (with_reducible refine x_or ?_) | (with_reducible refine x_not ?_)
  | (with_reducible refine x_ite ?_) | (with_reducible refine x_cmp ?_) | (with_reducible refine x_chn ?_) | (with_reducible refine x_tup ?_) | (with_reducible refine x_lst ?_) | (with_reducible refine x_idx ?_) | (with_reducible refine x_slc ?_) | (with_reducible refine x_call ?_) | (with_reducible refine x_callk ?_)
  | (with_reducible refine x_bi ?_) | (with_reducible refine x_mth ?_) | (with_reducible refine x_isi ?_) | (with_reducible refine l_nil ?_) | (with_reducible refine l_cons ?_) | (with_reducible refine o_nil ?_) | (with_reducible refine o_some ?_) | (with_reducible refine t_nil ?_) | (with_reducible refine t_some ?_)
  | (with_reducible refine s_skip ?_) | (with_reducible refine s_seq ?_) | (with_reducible refine s_asg ?_) | (with_reducible refine s_asgT ?_) | (with_reducible refine s_ex ?_) | (with_reducible refine s_ret ?_) | (with_reducible refine s_ife ?_)
  | (with_reducible refine wpO_of ?_ ?_; exact rfl) | (with_reducible refine wpO_of (isi_p ?_) ?_; exact rfl))
local macro_rules | `(tactic| walk_at "xs") => `(tactic| repeat (walk_at "x1"; try dsimp only))
local macro_rules | `(tactic| walk_at "is") => `(tactic| (refine Is.of ?_; walk_at "xs"; exact ⟨rfl, rfl⟩))





structure Rp (N B : Nat) (d : PyData) : Prop where
  sh : d.showable = true
  nd : d.hasDict = false
  de : d.depth ≤ N
  le : d.shown.length ≤ B
theorem join_sum (b : Str) : ∀ ps : List Str, (Str.join b ps).length ≤ (ps.map fun p => p.length + b.length).sum
  | [] => Nat.le_refl _
  | [p] => by
    show p.length ≤ _
    simp
  | p :: q :: r => by
    have e : (Str.join b (p :: q :: r)).length = p.length + b.length + (Str.join b (q :: r)).length := by
      show (p ++ b ++ Str.join b (q :: r)).length = _
      rw [app_len, app_len]
    have ih := join_sum b (q :: r)
    rw [e, List.map_cons, List.sum_cons]
    omega
theorem shownAll_map : ∀ xs : List PyData, PyData.shownAll xs = xs.map PyData.shown
  | [] => rfl
  | x :: xs => by rw [PyData.shownAll, shownAll_map xs]; rfl
theorem show_all : ∀ {xs : List PyData}, (∀ d ∈ xs, d.showable = true) → PyData.showableAll xs = true
  | [], _ => rfl
  | x :: xs, h => by rw [PyData.showableAll, h x (List.mem_cons_self ..), show_all fun d hd => h d (List.mem_cons_of_mem _ hd)]; rfl
theorem dict_all : ∀ {xs : List PyData}, (∀ d ∈ xs, d.hasDict = false) → PyData.hasDictAll xs = false
  | [], _ => rfl
  | x :: xs, h => by rw [PyData.hasDictAll, h x (List.mem_cons_self ..), dict_all fun d hd => h d (List.mem_cons_of_mem _ hd)]; rfl
theorem depth_all {N : Nat} : ∀ {xs : List PyData}, (∀ d ∈ xs, d.depth ≤ N) → PyData.depthAll xs ≤ N
  | [], _ => by rw [PyData.depthAll]; omega
  | x :: xs, h => by
    have := h x (List.mem_cons_self ..)
    have := depth_all fun d hd => h d (List.mem_cons_of_mem _ hd)
    rw [PyData.depthAll]
    omega
theorem lits : (("(" : Str)).length = 1 ∧ ((", " : Str)).length = 2 ∧ ((",)" : Str)).length = 2 ∧ ((")" : Str)).length = 1 := by decide +kernel
theorem tt_len (ts : List Str) : (tupleText ts).length ≤ (ts.map fun p => p.length + 2).sum + 3 := by
  unfold tupleText
  have h := join_sum ", " ts
  rw [lits.2.1] at h
  rw [app_len, app_len, lits.1]
  split
  · rw [lits.2.2.1]; omega
  · rw [lits.2.2.2]; omega
theorem Rp.tup {N : Nat} {ds : List PyData} (h : ∀ d ∈ ds, d.showable = true ∧ d.hasDict = false ∧ d.depth ≤ N) : Rp (N + 1) ((ds.map fun d => d.shown.length + 2).sum + 3) (.tuple ds) := by
  refine ⟨?_, ?_, ?_, ?_⟩
  · rw [PyData.showable]; exact show_all fun d hd => (h d hd).1
  · rw [PyData.hasDict]; exact dict_all fun d hd => (h d hd).2.1
  · rw [PyData.depth]; have := depth_all fun d hd => (h d hd).2.2; omega
  · rw [PyData.shown, shownAll_map]
    have := tt_len (ds.map PyData.shown)
    rw [List.map_map] at this
    exact this
theorem sum_bound {B : Nat} {f : PyData → Nat} : ∀ {ds : List PyData}, (∀ d ∈ ds, f d ≤ B) → (ds.map f).sum ≤ ds.length * B
  | [], _ => by simp
  | d :: ds, h => by
    have h1 := h d (List.mem_cons_self ..)
    have h2 := sum_bound fun e he => h e (List.mem_cons_of_mem _ he)
    rw [List.map_cons, List.sum_cons, List.length_cons, Nat.add_mul, Nat.one_mul]
    omega
theorem Rp.tupU {N B : Nat} {ds : List PyData} (h : ∀ d ∈ ds, Rp N B d) : Rp (N + 1) (ds.length * (B + 2) + 3) (.tuple ds) := by
  have r := Rp.tup (N := N) fun d hd => ⟨(h d hd).sh, (h d hd).nd, (h d hd).de⟩
  refine ⟨r.sh, r.nd, r.de, Nat.le_trans r.le ?_⟩
  have := sum_bound (B := B + 2) (f := fun d => d.shown.length + 2) fun d hd => by
    have := (h d hd).le
    show d.shown.length + 2 ≤ B + 2
    omega
  omega
theorem Rp.up {N B N' B' : Nat} {d : PyData} (h : Rp N B d) (h1 : N ≤ N') (h2 : B ≤ B') : Rp N' B' d := ⟨h.sh, h.nd, Nat.le_trans h.de h1, Nat.le_trans h.le h2⟩
theorem rp_str {m : Nat} {s : Str} (h : short m s) : Rp 0 (10 * m + 2) (.str s) := by
  refine ⟨by rw [PyData.showable], by rw [PyData.hasDict], by rw [PyData.depth]; omega, ?_⟩
  rw [PyData.shown]
  have := StrLaws.reprText_len s fun c hc => by
    have := (h.1 c hc).2
    have : (122 : Nat) < 16 ^ 8 := by decide
    omega
  have := h.2
  omega
theorem rp_int {i : Int} (h : absI (.int i) < 1000000000000000000000000000000) : Rp 0 31 (.int i) := by
  refine ⟨by rw [PyData.showable]; exact decide_eq_true (log_small h), by rw [PyData.hasDict], by rw [PyData.depth]; omega, ?_⟩
  rw [PyData.shown]
  exact (int_short h).2
theorem rp_words {ps : List Str} (h : ps.all wordB = true) (hl : ps.length ≤ 40) : Rp 1 3363 (.tuple (ps.map .str)) := by
  refine (Rp.tupU (N := 0) (B := 82) fun d hd => ?_).up (Nat.le_refl _) (by rw [List.length_map]; omega)
  obtain ⟨s, hs, rfl⟩ := List.mem_map.mp hd
  exact rp_str (word_short (List.all_eq_true.mp h s hs))
theorem pl_rp {w : Str} {r : List PyData} (h : Pl w r) : Rp 2 14000 (.tuple (.str w :: r)) := by
  have hw : Rp 1 3363 (.str w) := by
    have p := parts_ok h
    exact (rp_str (p.sh w (List.mem_of_getElem? p.hd))).up (by decide) (by decide)
  have u : ∀ {B d}, Rp 0 B d → B ≤ 3363 → Rp 1 3363 d := fun h l => h.up (by decide) l
  have us : ∀ {m s}, short m s → m ≤ 40 → Rp 1 3363 (.str s) := fun h l => u (rp_str h) (by omega)
  have nil : ∀ d ∈ ([] : List PyData), Rp 1 3363 d := fun d hd => nomatch hd
  have two : ∀ {a : PyData} {l : List PyData}, Rp 1 3363 a → (∀ p ∈ l, Rp 1 3363 p) → ∀ p ∈ a :: l, Rp 1 3363 p := fun ha hl p hp => by
    rcases List.mem_cons.mp hp with rfl | hp
    · exact ha
    · exact hl p hp
  have hr : ∀ d ∈ r, Rp 1 3363 d := by
    cases h with
    | let_ h1 h2 => exact two (us (word_short h1) (by decide)) (two (u (rp_int h2) (by decide)) nil)
    | imp h1 => exact two (us (name_short h1) (by decide)) nil
    | as_ h1 h2 => exact two (us (ref_short h1) (by decide)) (two (us (word_short h2) (by decide)) nil)
    | from_ h1 h2 h3 => exact two (us (ref_short h1) (by decide)) (two (us (word_short h2) (by decide)) (two (us (word_short h3) (by decide)) nil))
    | star h1 => exact two (us (ref_short h1) (by decide)) nil
    | pub h0 h1 h => exact two (rp_words h h1) nil
    | read h0 h1 h h2 => exact two (rp_words h (by omega)) (two (us (word_short h2) (by decide)) nil)
    | need h0 h1 h => exact two (rp_words h (by omega)) nil
    | forget h1 => exact two (us (word_short h1) (by decide)) nil
    | stop => exact nil
  have := pl_len h
  exact (Rp.tupU (two hw hr)).up (by decide) (by rw [List.length_cons]; omega)
theorem rp_bodyL : ∀ (m : Nat) (ds : List PyData), dpL ds ≤ m → ∀ k, cntL ds = some k → (∀ d ∈ ds, d.showable = true ∧ d.hasDict = false ∧ d.depth ≤ m + 2) ∧ (ds.map fun d => d.shown.length + 2).sum ≤ 20000 * k := by
  intro m
  induction m using Nat.strongRecOn with
  | _ m ih =>
    intro ds
    induction ds with
    | nil =>
      intro hd k hc
      exact ⟨fun d hd => (nomatch hd), by simp⟩
    | cons d ds ihd =>
      intro hd k hc
      rw [dpL] at hd
      obtain ⟨x, y, g, hy, hxy⟩ := cntL_cons hc
      obtain ⟨t1, t2⟩ := ihd (by omega) y hy
      have main : Rp (m + 2) (20000 * x - 2) d ∧ 1 ≤ x := by
        cases g with
        | pl hp => exact ⟨(pl_rp hp).up (by omega) (by omega), by omega⟩
        | @tr a b xa xb ha hb =>
          obtain ⟨as, rfl, ha⟩ := cnt_tup ha
          obtain ⟨bs, rfl, hb⟩ := cnt_tup hb
          have da := (dp_parts (w := .str "try") (a := .tuple as) (b := .tuple bs)).1
          have db := (dp_parts (w := .str "try") (a := .tuple as) (b := .tuple bs)).2
          rw [dp] at da db
          obtain ⟨a1, a2⟩ := ih (dpL as) (by omega) as (Nat.le_refl _) xa ha
          obtain ⟨b1, b2⟩ := ih (dpL bs) (by omega) bs (Nat.le_refl _) xb hb
          have ra := Rp.tup a1
          have rb := Rp.tup b1
          have rw' : Rp 0 82 (.str "try") := rp_str (m := 8) (lit_short (by decide +kernel) (by decide +kernel) |> fun h => ⟨h.1, by decide +kernel⟩)
          have r := Rp.tup (N := m + 1) (ds := [.str "try", .tuple as, .tuple bs]) fun d hd => by
            simp only [List.mem_cons, List.not_mem_nil, or_false] at hd
            rcases hd with rfl | rfl | rfl
            · exact ⟨rw'.sh, rw'.nd, by have := rw'.de; omega⟩
            · exact ⟨ra.sh, ra.nd, by have := ra.de; omega⟩
            · exact ⟨rb.sh, rb.nd, by have := rb.de; omega⟩
          refine ⟨r.up (by omega) ?_, by omega⟩
          simp only [List.map_cons, List.map_nil, List.sum_cons, List.sum_nil]
          have l1 := rw'.le
          have l2 := ra.le
          have l3 := rb.le
          omega
      refine ⟨fun e he => ?_, ?_⟩
      · rcases List.mem_cons.mp he with rfl | he
        · exact ⟨main.1.sh, main.1.nd, main.1.de⟩
        · exact t1 e he
      · rw [List.map_cons, List.sum_cons]
        have := main.1.le
        have := main.2
        omega
theorem rp_body {d : PyData} {k : Nat} (h : cnt d = some k) (hk : k ≤ 40) : Rp (dp d + 2) 800003 d := by
  obtain ⟨ds, rfl, hc⟩ := cnt_tup h
  obtain ⟨t1, t2⟩ := rp_bodyL (dpL ds) ds (Nat.le_refl _) k hc
  refine (Rp.tup t1).up (by rw [dp]; omega) (by omega)
theorem is_repr {K : Kit} {a : Ex} {env : Vm.Env} {st : Store} {d : PyData} {N B : Nat} (h1 : Is K a env st (.p d)) (h : Rp N B d) (hN : N ≤ 64) (hB : B ≤ 16777216) : Is K (.bi .repr (.cons a .nil)) env st (.p (.str d.shown)) := Is.of (x_bi (l_cons (h1.wp (l_nil (wpO_of (a := .p (.str d.shown)) (by
  show (biD .repr d).map Val.p = _
  unfold biD
  simp only
  rw [if_pos ⟨Nat.le_trans h.le hB, h.sh, Nat.le_trans h.de hN, h.nd⟩]
  rfl) ⟨rfl, rfl⟩)))))
theorem rp_bool (b : Bool) : Rp 0 5 (.bool b) := by
  cases b
  · exact ⟨by decide +kernel, by decide +kernel, by decide +kernel, by decide +kernel⟩
  · exact ⟨by decide +kernel, by decide +kernel, by decide +kernel, by decide +kernel⟩
theorem is_reprB {K : Kit} {a : Ex} {env : Vm.Env} {st : Store} {b : Bool} (h1 : Is K a env st (.p (.bool b))) : Is K (.bi .repr (.cons a .nil)) env st (.p (.str (PyData.bool b).shown)) := is_repr h1 (rp_bool b) (by decide) (by decide)
theorem is_neSS {K : Kit} {a b : Ex} {env : Vm.Env} {st : Store} {x : Str} (h1 : Is K a env st (.p (.str x))) (h2 : Is K b env st (.p (.str x))) : Is K (.cmp .ne a b) env st (.p (.bool false)) := by
  have := is_neS h1 h2
  rwa [beq_self_eq_true] at this
theorem is_neB {K : Kit} {a b : Ex} {env : Vm.Env} {st : Store} {x : Bool} (h1 : Is K a env st (.p (.bool x))) (h2 : Is K b env st (.p (.bool x))) : Is K (.cmp .ne a b) env st (.p (.bool false)) := Is.of (x_cmp (h1.wp (h2.wp (wpO_of (a := false) (by cases x <;> rfl) ⟨rfl, rfl⟩))))
theorem is_ck1 {P : Pg} {n f : Nat} {k : Str} {a : Ex} {env : Vm.Env} {st : Store} {v r : Val} (h1 : Is (kitOf P n) a env st v) (h2 : runF P n f [v] st = .ok r st) : Is (kitOf P n) (.callk f 0 [k] [0] .nil (.cons a .nil)) env st r := Is.of (x_callk (l_nil (l_cons (h1.wp (l_nil ⟨⟨rfl, rfl⟩, wp_eq (v := r) (st := st) h2 ⟨rfl, rfl⟩⟩)))))
end K05
end

section
/-! the public list. -/
namespace K05
open PySem Vm
local macro_rules | `(tactic| walk_at "x1") => `(tactic| first
  | (with_reducible refine x_var ?_ ?_; exact rfl) | (with_reducible refine x_con ?_) | (with_reducible refine x_glo ?_ ?_; exact rfl) | (with_reducible refine x_bin ?_) | (with_reducible refine x_and ?_) | (with_reducible refine x_or ?_) | (with_reducible refine x_not ?_)
  | (with_reducible refine x_ite ?_) | (with_reducible refine x_cmp ?_) | (with_reducible refine x_chn ?_) | (with_reducible refine x_tup ?_) | (with_reducible refine x_lst ?_) | (with_reducible refine x_idx ?_) | (with_reducible refine x_slc ?_) | (with_reducible refine x_call ?_) | (with_reducible refine x_callk ?_)
  | (with_reducible refine x_bi ?_) | (with_reducible refine x_mth ?_) | (with_reducible refine x_isi ?_) | (with_reducible refine l_nil ?_) | (with_reducible refine l_cons ?_) | (with_reducible refine o_nil ?_) | (with_reducible refine o_some ?_) | (with_reducible refine t_nil ?_) | (with_reducible refine t_some ?_)
  | (with_reducible refine s_skip ?_) | (with_reducible refine s_seq ?_) | (with_reducible refine s_asg ?_) | (with_reducible refine s_asgT ?_) | (with_reducible refine s_ex ?_) | (with_reducible refine s_ret ?_) | (with_reducible refine s_ife ?_)
  | (with_reducible refine wpO_of ?_ ?_; exact rfl) | (with_reducible refine wpO_of (isi_p ?_) ?_; exact rfl))
local macro_rules | `(tactic| walk_at "xs") => `(tactic| repeat (walk_at "x1"; try dsimp only))
local macro_rules | `(tactic| walk_at "is") => `(tactic| (refine Is.of ?_; walk_at "xs"; exact ⟨rfl, rfl⟩))





theorem x_genE {K : Kit} {i N kd L : Nat} {it e : Ex} {env : Vm.Env} {st : Store} {Pp : PyData → Prop} {Q : Val → Store → Prop} {E : EK} (hN : N ≤ SZ) (hit : wpR (evalI K it env st) (fun items s => items.length = N ∧ DS kd L s) E)
    (he : ∀ v s, DS kd L s → wpR (evalX K e (env.set i (some v)) s) (fun x s2 => ∃ d, x = .p d ∧ Pp d ∧ DS kd L s2) (fun _ _ _ => False)) (q : ∀ ds s, ds.length = N → (∀ d ∈ ds, Pp d) → DS kd L s → Q (.p (.list ds)) s) : wpR (evalX K (.lc 0 [i] it .nil e) env st) Q E := by
  refine x_lc (fun items acc s => ∃ ds : List PyData, acc = ds.map .p ∧ (∀ d ∈ ds, Pp d) ∧ ds.length + items.length = N ∧ DS kd L s) (hit.imp fun items s ⟨h, D⟩ => ⟨[], rfl, (fun d (hd : d ∈ ([] : List PyData)) => nomatch hd), by simpa using h, D⟩) ?_ ?_
  · rintro v vs acc s ⟨ds, rfl, hp, hl, D⟩
    refine wpO_of (a := env.set i (some v)) rfl (t_nil (wpB_t ((he v s D).imp ?_)))
    rintro x s2 ⟨d, rfl, hd, D2⟩
    refine ⟨ds ++ [d], by simp, fun e he => ?_, by simp only [List.length_append, List.length_cons, List.length_nil] at hl ⊢; omega, D2⟩
    rcases List.mem_append.mp he with he | he
    · exact hp e he
    · rw [List.mem_singleton] at he
      rw [he]
      exact hd
  · rintro acc s ⟨ds, rfl, hp, hl, D⟩
    refine ⟨by rw [List.length_map]; simp at hl; omega, ?_⟩
    unfold Vm.alloc
    simp only [mkL_map]
    exact q ds s (by simpa using hl) hp D
theorem i_rngI {K : Kit} {a : Ex} {env : Vm.Env} {st : Store} {i : Int} {kd L : Nat} {E : EK} (h : Is K a env st (.p (.int i))) (h0 : 0 ≤ i) (h1 : i ≤ 4096) (D : DS kd L st) : wpR (evalI K (.rng (.con (.int 0)) a) env st) (fun items s => items.length = i.toNat ∧ DS kd L s) E := by
  refine i_rng (x_con (h.wp ?_))
  have p : (4096 : Int) < 2 ^ 62 := by decide
  have p2 : -(2 ^ 62 : Int) ≤ 0 := by decide
  refine ⟨0, i, rfl, rfl, ⟨p2, by omega, by omega, by omega⟩, ?_, D⟩
  unfold rangeV
  rw [List.length_map, List.length_range]
  omega
def manyL : List PyData := [.int 7, .int 9, .int 39, .int 40, .int 41, .int 42]
def wordL : List PyData := [.str "x", .str "y", .str "lets"]
theorem many_in {d : PyData} (h : d ∈ manyL) : ∃ i : Int, d = .int i ∧ 7 ≤ i ∧ i ≤ 42 := by
  unfold manyL at h
  simp only [List.mem_cons, List.not_mem_nil, or_false] at h
  rcases h with rfl | rfl | rfl | rfl | rfl | rfl
  · exact ⟨7, rfl, by decide, by decide⟩
  · exact ⟨9, rfl, by decide, by decide⟩
  · exact ⟨39, rfl, by decide, by decide⟩
  · exact ⟨40, rfl, by decide, by decide⟩
  · exact ⟨41, rfl, by decide, by decide⟩
  · exact ⟨42, rfl, by decide, by decide⟩
theorem word_in {d : PyData} (h : d ∈ wordL) : ∃ s, d = .str s ∧ wordB s = true := by
  unfold wordL at h
  simp only [List.mem_cons, List.not_mem_nil, or_false] at h
  rcases h with rfl | rfl | rfl
  · exact ⟨_, rfl, by decide +kernel⟩
  · exact ⟨_, rfl, by decide +kernel⟩
  · exact ⟨_, rfl, by decide +kernel⟩
theorem strs_of : ∀ {ds : List PyData}, (∀ d ∈ ds, ∃ s, d = .str s ∧ wordB s = true) → ∃ ps : List Str, ds = ps.map .str ∧ ps.all wordB = true
  | [], _ => ⟨[], rfl, rfl⟩
  | d :: ds, h => by
    obtain ⟨s, rfl, h1⟩ := h d (List.mem_cons_self ..)
    obtain ⟨ps, rfl, h2⟩ := strs_of fun e he => h e (List.mem_cons_of_mem _ he)
    exact ⟨s :: ps, rfl, by rw [List.all_cons, h1, h2]; rfl⟩
def pubD (ps : List Str) : PyData := .tuple [.tuple [.str "public", .tuple (ps.map .str)]]
theorem pub_cnt {ps : List Str} (h : ps.all wordB = true) (h7 : 7 ≤ ps.length) : cnt (pubD ps) = if ps.length ≤ 40 then some 1 else none := by
  unfold pubD
  rw [cnt, cntL, cntL, stm_ok (by rw [show (("public" : Str) == ("try" : Str)) = false by decide +kernel]; rfl)]
  have e : plainB "public" [.tuple (ps.map .str)] = decide (ps.length ≤ 40) := by
    have o5 : okS 109 (.tuple (ps.map .str)) = decide (ps.length ≤ 40) := by
      show ((decide (1 ≤ ((ps.map PyData.str).length : Int)) && decide (((ps.map PyData.str).length : Int) ≤ 40)) && (ps.map PyData.str).all wordD) = _
      rw [all_strs _ _ wordB (fun _ => rfl), h, List.length_map, decide_eq_true (by omega : (1 : Int) ≤ ps.length), Bool.true_and, Bool.and_true]
      exact decide_eq_decide.mpr (by omega)
    rw [form_plain, show formL "public" = some [109] by decide +kernel]
    simp [o5]
  rw [e]
  by_cases hk : ps.length ≤ 40
  · rw [if_pos hk, if_pos (decide_eq_true hk)]
    rfl
  · rw [if_neg hk, if_neg (by rw [decide_eq_true_eq]; exact hk)]
    rfl
theorem pub_body {ps : List Str} (h : ps.all wordB = true) (h7 : 7 ≤ ps.length) : bodyB (pubD ps) = decide (ps.length ≤ 40) := by
  unfold bodyB
  rw [pub_cnt h h7]
  by_cases hk : ps.length ≤ 40
  · rw [if_pos hk]
    simp [hk]
  · rw [if_neg hk]
    simp [hk]
theorem pub_rows (ps : List Str) : rows (pubD ps) = [line "public" [.tuple (ps.map .str)]] := by
  unfold pubD
  rw [rows, rowsL, rowsL, rowS_line (by decide +kernel)]
  rfl
theorem pub_gd {ps : List Str} (h : ps.all wordB = true) (h7 : ps.length ≤ 42) : Gd 64 3 (pubD ps) := by
  refine Gd.mk (by show 1 ≤ 64; decide) (gd_cons (Gd.mk (by show 2 ≤ 64; decide) (gd_cons (gd_str "public") (gd_cons (Gd.mk (N := 0) (by rw [List.length_map]; omega) fun d hd => ?_) gd_nil))) gd_nil)
  obtain ⟨s, hs, rfl⟩ := List.mem_map.mp hd
  have := (word_short (List.all_eq_true.mp h s hs)).2
  exact gd_str s (by omega)
theorem eq_same {K : Kit} {a b : Ex} {env : Vm.Env} {st : Store} {ds : List PyData} (h : SeqAt.shaped (.tuple ds) = true) (h1 : Is K a env st (.p (.tuple ds))) (h2 : Is K b env st (.p (.tuple ds))) : Is K (.cmp .eq a b) env st (.p (.bool true)) := Is.of (x_cmp (h1.wp (h2.wp (wpO_of (a := true) (by
  show eqD (.tuple ds) (.tuple ds) = _
  unfold eqD
  rw [if_neg (by simp [flat2]), if_pos ⟨h, h⟩, SeqAt.eqv_refl _ (SeqAt.canLay_of_shaped h)]) ⟨rfl, rfl⟩))))
theorem word_ok {s : Str} (h : wordB s = true) : PyData.canLay0 (.str s) = true := by
  rw [PyData.canLay0]
  unfold PyData.strOk
  rw [← Array.all_toList, List.all_eq_true]
  intro c hc
  have := (word_short h).1 c hc
  exact decide_eq_true (by omega)
theorem lay_all : ∀ {xs : List PyData}, (∀ d ∈ xs, PyData.canLay0 d = true) → PyData.canLayAll0 xs = true
  | [], _ => by rw [PyData.canLayAll0]
  | x :: xs, h => by rw [PyData.canLayAll0, h x (List.mem_cons_self ..), lay_all fun d hd => h d (List.mem_cons_of_mem _ hd)]; rfl
theorem pub_shaped {ps : List Str} (h : ps.all wordB = true) : SeqAt.shaped (pubD ps) = true := by
  have hl : PyData.canLay0 (.tuple (ps.map .str)) = true := by
    rw [PyData.canLay0]
    refine lay_all fun d hd => ?_
    obtain ⟨s, hs, rfl⟩ := List.mem_map.mp hd
    exact word_ok (List.all_eq_true.mp h s hs)
  have hd : (PyData.tuple (ps.map .str)).depth ≤ 1 := by
    rw [PyData.depth]
    have := depth_all (N := 0) (xs := ps.map PyData.str) fun d hd => by
      obtain ⟨s, hs, rfl⟩ := List.mem_map.mp hd
      rw [PyData.depth]
      exact Nat.le_refl _
    omega
  unfold SeqAt.shaped pubD
  rw [Bool.and_eq_true, decide_eq_true_eq]
  refine ⟨?_, ?_⟩
  · rw [PyData.canLay0]
    refine lay_all fun d hd => ?_
    rw [List.mem_singleton] at hd
    rw [hd, PyData.canLay0]
    refine lay_all fun e he => ?_
    simp only [List.mem_cons, List.not_mem_nil, or_false] at he
    rcases he with rfl | rfl
    · exact (by decide +kernel : PyData.canLay0 (.str "public") = true)
    · exact hl
  · have h2 : (PyData.tuple [.str "public", .tuple (ps.map .str)]).depth ≤ 2 := by
      rw [PyData.depth]
      have := depth_all (N := 1) (xs := [.str "public", .tuple (ps.map .str)]) fun e he => by
        simp only [List.mem_cons, List.not_mem_nil, or_false] at he
        rcases he with rfl | rfl
        · rw [PyData.depth]; omega
        · exact hd
      omega
    rw [PyData.depth]
    have := depth_all (N := 2) (xs := [.tuple [.str "public", .tuple (ps.map .str)]]) fun e he => by
      rw [List.mem_singleton] at he
      rw [he]
      exact h2
    omega
def pubR : Sm := (.seq (.asg (.n 2) (.tup (.cons (.tup (.cons (.con (.str "public")) (.cons (.bi .tuple (.cons (.lc 0 [3] (.rng (.con (.int 0)) (.var 1)) .nil (.call i__law_pick (.cons (.var 0) (.cons (.lst 0 (.cons (.con (.str "x")) (.cons (.con (.str "y")) (.cons (.con (.str "lets")) .nil)))) .nil)))) .nil)) .nil))) .nil))) (.seq (.ife (.cons (.cmp .ne (.bi .repr (.cons (.call i_is_body (.cons (.var 2) .nil)) .nil)) (.bi .repr (.cons (.cmp .le (.var 1) (.con (.int 40))) .nil))) .nil) (.ret (.con (.bool false))) .skip) (.ret (.or (.cmp .gt (.var 1) (.con (.int 40))) (.and (.cmp .eq (.call i_body_text (.cons (.var 2) .nil)) (.bin .add (.idx (.call i__law_rows (.cons (.var 2) .nil)) (.con (.int 0))) (.con (.str "\n")))) (.cmp .eq (.call i_parse_body (.cons (.call i_body_text (.cons (.var 2) .nil)) .nil)) (.var 2)))))))
theorem g_pub2 {n kd L : Nat} {i : Int} {s1 : Store} (hn : 2 ≤ n) (D1 : DS kd L s1) (k7 : 7 ≤ i) (k42 : i ≤ 42) : wpF (execS (kitOf pg (n + 8)) pg.fields pubR [some (.r kd), some (.p (.int i)), none, none] s1) { nx := fun _ _ => False, rt := fun v s => ∃ d, v = .p d ∧ d = .bool true ∧ DS kd L s } := by
  have sz : SZ = 16777216 := rfl
  unfold pubR
  refine s_seq (s_asg (x_tup (l_cons (x_tup (l_cons (x_con (l_cons (x_bi (l_cons ?_)))))))))
  refine x_genE (kd := kd) (L := L) (N := i.toNat) (Pp := fun d => d ∈ wordL) (by omega) (i_rngI (i := i) (is_var rfl) (by omega) (by omega) D1) (fun v s2 D2 => ?_) fun ds s2 l g D2 => l_nil ?_
  · exact x_pick D2 rfl (is_lst (ds := wordL) (by unfold wordL; repeat (first | exact ev_nil | (refine ev_cons is_con ?_))) (by decide +kernel)) (by decide +kernel) (by decide +kernel) fun d hd s3 D3 => ⟨d, rfl, hd, D3⟩
  · refine wpO_of (a := .p (.tuple ds)) rfl (l_nil ⟨by show 2 ≤ SZ; decide, l_nil ⟨by show 1 ≤ SZ; decide, ?_⟩⟩)
    obtain ⟨ps, rfl, hw⟩ := strs_of fun d hd => word_in (g d hd)
    rw [List.length_map] at l
    have k7' : 7 ≤ ps.length := by omega
    show wpF (execS (kitOf pg (n + 8)) pg.fields _ [some (.r kd), some (.p (.int i)), some (.p (pubD ps)), none] s2) _
    have V1 : Is (kitOf pg (n + 8)) (.var 1) [some (.r kd), some (.p (.int i)), some (.p (pubD ps)), none] s2 (.p (.int i)) := is_var rfl
    have V2 : Is (kitOf pg (n + 8)) (.var 2) [some (.r kd), some (.p (.int i)), some (.p (pubD ps)), none] s2 (.p (pubD ps)) := is_var rfl
    have gd := pub_gd hw (by omega)
    have b1 := is_1 V2 (r_is_body (m := 3) (n := n + 8) D2.wf (lim_tame (by decide) _ _ (Nat.le_refl _) gd.1) gd.2 (by omega))
    rw [pub_body hw k7'] at b1
    have b2 : Is (kitOf pg (n + 8)) (.cmp .le (.var 1) (.con (.int 40))) [some (.r kd), some (.p (.int i)), some (.p (pubD ps)), none] s2 (.p (.bool (decide (ps.length ≤ 40)))) := by
      have := is_cmpI (o := .le) V1 (is_con (d := .int 40)) rfl
      rwa [show decide (i ≤ 40) = decide (ps.length ≤ 40) from decide_eq_decide.mpr (by omega)] at this
    refine s_seq (if_is (is_neSS (is_reprB b1) (is_reprB b2)) (fun z => by cases z) fun _ => s_skip ?_)
    dsimp only
    have b3 := is_cmpI (o := .gt) V1 (is_con (d := .int 40)) rfl
    refine s_ret (x_or (b3.wp (wpO_of (a := decide ((40 : Int) < i)) rfl (wpB_mk (fun z => ?_) fun z => ?_))))
    · rw [z]
      exact ⟨_, rfl, rfl, D2⟩
    · have hk : ps.length ≤ 40 := by
        rw [decide_eq_false_iff_not] at z
        omega
      have hc : cnt (pubD ps) = some 1 := by rw [pub_cnt hw k7', if_pos hk]
      have t1 := is_1 V2 (r_body_text (m := 3) (n := n + 8) D2.wf gd.2 (by decide) hc (by omega))
      have t2 := is_1 V2 (l_rows 3 _ gd.2 1 (by decide) hc (n + 8) (by omega) _ D2.wf)
      have t3 := is_1 t1 (r_parse_body (n := n) D2.wf (by decide) hc)
      rw [pub_rows] at t1 t2
      have hl := rows_short hc (line "public" [.tuple (ps.map .str)]) (by rw [pub_rows]; simp)
      have t4 := is_addS (is_list 0 t2 rfl) (is_con (d := .str "\n")) (by rw [eol_len]; omega)
      have t5 : textOf [line "public" [.tuple (ps.map .str)]] = line "public" [.tuple (ps.map .str)] ++ eol := by
        unfold textOf
        rw [TL.join_eq]
        rfl
      rw [t5] at t1
      have t6 := is_eqS t1 t4
      rw [beq_self_eq_true] at t6
      exact (is_and t6 fun _ => eq_same (pub_shaped hw) t3 V2).wp ⟨_, rfl, rfl, D2⟩
theorem g_public {N kd L : Nat} {s : Store} (hN : 40 ≤ N) (D : DS kd L s) : wpR (runF pg N i__law_public_right [.r kd] s) (fun v s' => ∃ d, v = .p d ∧ d = .bool true ∧ DS kd L s') (fun _ _ _ => False) := by
  have sz : SZ = 16777216 := rfl
  obtain ⟨n, rfl⟩ : ∃ n, N = n + 9 := ⟨N - 9, by omega⟩
  refine f_gd rfl rfl rfl D ?_
  show wpF (execS (kitOf pg (n + 8)) pg.fields b__law_public_right [some (.r kd), none, none, none] s) _
  unfold b__law_public_right
  refine s_seq (s_asg (x_pick D rfl (is_lst (ds := manyL) (by unfold manyL; repeat (first | exact ev_nil | (refine ev_cons is_con ?_))) (by decide +kernel)) (by decide +kernel) (by decide +kernel) fun d hd s1 D1 => ?_))
  obtain ⟨i, rfl, k7, k42⟩ := many_in hd
  exact g_pub2 (by omega) D1 k7 k42
end K05
end

section
/-! the law. -/
namespace K05
open PySem Vm
local macro_rules | `(tactic| walk_at "x1") => `(tactic| first
  | (with_reducible refine x_var ?_ ?_; exact rfl) | (with_reducible refine x_con ?_) | (with_reducible refine x_glo ?_ ?_; exact rfl) | (with_reducible refine x_bin ?_) | (with_reducible refine x_and ?_) | (with_reducible refine x_or ?_) | (with_reducible refine x_not ?_)
  | (with_reducible refine x_ite ?_) | (with_reducible refine x_cmp ?_) | (with_reducible refine x_chn ?_) | (with_reducible refine x_tup ?_) | (with_reducible refine x_lst ?_) | (with_reducible refine x_idx ?_) | (with_reducible refine x_slc ?_) | (with_reducible refine x_call ?_) | (with_reducible refine x_callk ?_)
  | (with_reducible refine x_bi ?_) | (with_reducible refine x_mth ?_) | (with_reducible refine x_isi ?_) | (with_reducible refine l_nil ?_) | (with_reducible refine l_cons ?_) | (with_reducible refine o_nil ?_) | (with_reducible refine o_some ?_) | (with_reducible refine t_nil ?_) | (with_reducible refine t_some ?_)
  | (with_reducible refine s_skip ?_) | (with_reducible refine s_seq ?_) | (with_reducible refine s_asg ?_) | (with_reducible refine s_asgT ?_) | (with_reducible refine s_ex ?_) | (with_reducible refine s_ret ?_) | (with_reducible refine s_ife ?_)
  | (with_reducible refine wpO_of ?_ ?_; exact rfl) | (with_reducible refine wpO_of (isi_p ?_) ?_; exact rfl))
local macro_rules | `(tactic| walk_at "xs") => `(tactic| repeat (walk_at "x1"; try dsimp only))
local macro_rules | `(tactic| walk_at "is") => `(tactic| (refine Is.of ?_; walk_at "xs"; exact ⟨rfl, rfl⟩))





def lw3 : Sm := (.seq (.asg (.n 5) (.cmp .le (.call i__law_size (.cons (.var 3) .nil)) (.con (.int 40)))) (.seq (.ife (.cons (.or (.cmp .ne (.bi .repr (.cons (.call i_is_body (.cons (.var 3) .nil)) .nil)) (.bi .repr (.cons (.var 5) .nil))) (.cmp .ne (.callk i_is_body 0 ["value"] [0] .nil (.cons (.var 3) .nil)) (.var 5))) .nil) (.ret (.con (.bool false))) .skip) (.ife (.cons (.var 5) .nil) (.seq (.asg (.n 6) (.mth .join (.con (.str "")) (.cons (.lc 0 [7] (.cons (.call i__law_rows (.cons (.var 3) .nil)) .nil) .nil (.bin .add (.var 7) (.con (.str "\n")))) .nil))) (.seq (.ife (.cons (.or (.cmp .ne (.call i_body_text (.cons (.var 3) .nil)) (.var 6)) (.cmp .ne (.callk i_body_text 0 ["body"] [0] .nil (.cons (.var 3) .nil)) (.var 6))) .nil) (.ret (.con (.bool false))) .skip) (.seq (.ife (.cons (.cmp .ne (.bi .repr (.cons (.call i_parse_body (.cons (.var 6) .nil)) .nil)) (.bi .repr (.cons (.var 3) .nil))) .nil) (.ret (.con (.bool false))) .skip) (.ife (.cons (.cmp .ne (.bi .repr (.cons (.callk i_parse_body 0 ["text"] [0] .nil (.cons (.var 6) .nil)) .nil)) (.bi .repr (.cons (.var 3) .nil))) .nil) (.ret (.con (.bool false))) .skip)))) .skip)))
def lwT : Sm := .seq (.asg (.n 3) (.ite (.cmp .eq (.call i__law_take (.cons (.var 1) (.cons (.con (.int 5)) .nil))) (.con (.int 0))) (.call i__law_long (.cons (.var 1) .nil)) (.call i__law_body (.cons (.var 1) (.cons (.con (.int 8)) (.cons (.con (.int 3)) .nil)))))) (.seq (.for_ [4] (.rng (.con (.int 0)) (.call i__law_pick (.cons (.var 1) (.cons (.lst 0 (.cons (.con (.int 0)) (.cons (.con (.int 0)) (.cons (.con (.int 1)) (.cons (.con (.int 1)) (.cons (.con (.int 2)) .nil)))))) .nil)))) (.asg (.n 3) (.call i__law_bent (.cons (.var 1) (.cons (.var 3) .nil))))) lw3)
theorem law_eq : b_law = .seq (.asg (.n 1) (.call i__law_begin (.cons (.var 0) .nil))) (.seq (.for_ [2] (.rng (.con (.int 0)) (.bin .add (.con (.int 6)) (.bi .min2 (.cons (.bi .len (.cons (.var 0) .nil)) (.cons (.con (.int 20)) .nil))))) lwT) (.ret (.call i__law_public_right (.cons (.var 1) .nil)))) := by kernel_rfl

theorem body_cnt {d : PyData} (h : bodyB d = true) : ∃ k, cnt d = some k ∧ k ≤ 40 := by
  unfold bodyB at h
  split at h
  · rename_i k e
    exact ⟨k, e, of_decide_eq_true h⟩
  · cases h
section
variable {n kd L : Nat} {s : Store} {scr : Val} {x2 x4 x5 x6 x7 : Option Val} {d : PyData} {D : FK}
theorem g_rest (hn : 22 ≤ n + 8) (D0 : DS kd L s) (g : Gd 66 15 d) (q : ∀ x5 x6 x7, D.nx [some scr, some (.r kd), x2, some (.p d), x4, x5, x6, x7] s) : wpF (execS (kitOf pg (n + 8)) pg.fields lw3 [some scr, some (.r kd), x2, some (.p d), x4, x5, x6, x7] s) D := by
  unfold lw3
  have sz : SZ = 16777216 := rfl
  have wf := D0.wf
  have tm := lim_tame (m := 66) (by decide) _ d (Nat.le_refl _) g.1
  obtain ⟨v, rel, hs⟩ := l_size 15 d tm g.2 (n + 8) (by omega) s wf
  have V3 : ∀ {x5 x6 x7}, Is (kitOf pg (n + 8)) (.var 3) [some scr, some (.r kd), x2, some (.p d), x4, x5, x6, x7] s (.p d) := is_var rfl
  have c1 := is_cmpI (o := .le) (is_1 (V3 (x5 := x5) (x6 := x6) (x7 := x7)) hs) (is_con (d := .int 40)) rfl
  rw [rel.body] at c1
  refine s_seq (asg_is c1 ?_)
  show wpF (execS (kitOf pg (n + 8)) pg.fields _ [some scr, some (.r kd), x2, some (.p d), x4, some (.p (.bool (bodyB d))), x6, x7] s) _
  have hb := r_is_body (m := 15) (n := n + 8) wf tm g.2 (by omega)
  have b1 := is_1 (V3 (x5 := some (.p (.bool (bodyB d)))) (x6 := x6) (x7 := x7)) hb
  have b2 : Is (kitOf pg (n + 8)) (.var 5) [some scr, some (.r kd), x2, some (.p d), x4, some (.p (.bool (bodyB d))), x6, x7] s (.p (.bool (bodyB d))) := is_var rfl
  have b3 := is_ck1 (k := "value") (V3 (x5 := some (.p (.bool (bodyB d)))) (x6 := x6) (x7 := x7)) hb
  refine s_seq (if_is (is_or (is_neSS (is_reprB b1) (is_reprB b2)) fun _ => is_neB b3 b2) (fun z => by cases z) fun _ => s_skip ?_)
  dsimp only
  refine if_is b2 (fun z => ?_) fun _ => s_skip (q _ _ _)
  obtain ⟨k, hk, k40⟩ := body_cnt z
  have rl := rows_len (dp d) d (Nat.le_refl _) k hk
  have rw1 := is_1 (V3 (x5 := some (.p (.bool (bodyB d)))) (x6 := x6) (x7 := x7)) (l_rows 15 d g.2 k k40 hk (n + 8) (by omega) s wf)
  refine s_seq (asg_is (is_text (i := 7) rw1 (Nat.lt_succ_self 7) (by omega) (rows_short hk)) ?_)
  show wpF (execS (kitOf pg (n + 8)) pg.fields _ [some scr, some (.r kd), x2, some (.p d), x4, some (.p (.bool (bodyB d))), some (.p (.str (textOf (rows d)))), x7] s) _
  have V3' : Is (kitOf pg (n + 8)) (.var 3) [some scr, some (.r kd), x2, some (.p d), x4, some (.p (.bool (bodyB d))), some (.p (.str (textOf (rows d)))), x7] s (.p d) := is_var rfl
  have V6 : Is (kitOf pg (n + 8)) (.var 6) [some scr, some (.r kd), x2, some (.p d), x4, some (.p (.bool (bodyB d))), some (.p (.str (textOf (rows d)))), x7] s (.p (.str (textOf (rows d)))) := is_var rfl
  have ht := r_body_text (m := 15) (n := n + 8) wf g.2 k40 hk (by omega)
  have hp := r_parse_body (n := n) wf k40 hk
  have rp := rp_body hk k40
  have g2 := g.2
  refine s_seq (if_is (is_or (is_neSS (is_1 V3' ht) V6) fun _ => is_neSS (is_ck1 (k := "body") V3' ht) V6) (fun z => by cases z) fun _ => s_skip ?_)
  dsimp only
  have r1 := is_repr V3' rp (by omega) (by decide)
  refine s_seq (if_is (is_neSS (is_repr (is_1 V6 hp) rp (by omega) (by decide)) r1) (fun z => by cases z) fun _ => s_skip ?_)
  dsimp only
  exact if_is (is_neSS (is_repr (is_ck1 (k := "text") V6 hp) rp (by omega) (by decide)) r1) (fun z => by cases z) fun _ => s_skip (q _ _ _)
def chgL : List PyData := [.int 0, .int 0, .int 1, .int 1, .int 2]
theorem chg_in {d : PyData} (h : d ∈ chgL) : ∃ i : Int, d = .int i ∧ 0 ≤ i ∧ i ≤ 2 := by
  unfold chgL at h
  simp only [List.mem_cons, List.not_mem_nil, or_false] at h
  rcases h with rfl | rfl | rfl | rfl | rfl
  · exact ⟨0, rfl, by decide, by decide⟩
  · exact ⟨0, rfl, by decide, by decide⟩
  · exact ⟨1, rfl, by decide, by decide⟩
  · exact ⟨1, rfl, by decide, by decide⟩
  · exact ⟨2, rfl, by decide, by decide⟩
def LE (kd : Nat) (scr : Val) (e : Vm.Env) : Prop := ∃ x2 x3 x4 x5 x6 x7, e = [some scr, some (.r kd), x2, x3, x4, x5, x6, x7]
theorem i_rngJ {K : Kit} {a : Ex} {env : Vm.Env} {st : Store} {Q : List Val → Store → Prop} {E : EK} (h : wpR (evalX K a env st) (fun x s => ∃ i : Int, x = .p (.int i) ∧ 0 ≤ i ∧ i ≤ 4096 ∧ ∀ items : List Val, items.length = i.toNat → Q items s) E) : wpR (evalI K (.rng (.con (.int 0)) a) env st) Q E := by
  refine i_rng (x_con (h.imp ?_))
  rintro x s ⟨i, rfl, h0, h1, q⟩
  have p : (4096 : Int) < 2 ^ 62 := by decide
  have p2 : -(2 ^ 62 : Int) ≤ 0 := by decide
  refine ⟨0, i, rfl, rfl, ⟨p2, by omega, by omega, by omega⟩, q _ ?_⟩
  unfold rangeV
  rw [List.length_map, List.length_range]
  omega
theorem g_turn {e : Vm.Env} (hn : 30 ≤ n) (D0 : DS kd L s) (he : LE kd scr e) (q : ∀ e s', DS kd L s' → LE kd scr e → D.nx e s') : wpF (execS (kitOf pg (n + 8)) pg.fields lwT e s) D := by
  obtain ⟨x2, x3, x4, x5, x6, x7, rfl⟩ := he
  unfold lwT
  have cont : ∀ d s, Gd 64 9 d → DS kd L s → wpF (execS (kitOf pg (n + 8)) pg.fields (.seq (.for_ [4] (.rng (.con (.int 0)) (.call i__law_pick (.cons (.var 1) (.cons (.lst 0 (.cons (.con (.int 0)) (.cons (.con (.int 0)) (.cons (.con (.int 1)) (.cons (.con (.int 1)) (.cons (.con (.int 2)) .nil)))))) .nil)))) (.asg (.n 3) (.call i__law_bent (.cons (.var 1) (.cons (.var 3) .nil))))) lw3) [some scr, some (.r kd), x2, some (.p d), x4, x5, x6, x7] s) D := by
    intro d s g D1
    refine s_seq (s_for (fun items e s => items.length ≤ 2 ∧ DS kd L s ∧ ∃ x4 d, e = [some scr, some (.r kd), x2, some (.p d), x4, x5, x6, x7] ∧ Gd (64 + (2 - items.length)) (9 + 3 * (2 - items.length)) d) (i_rngJ (x_pick D1 rfl (is_lst (ds := chgL) (by unfold chgL; repeat (first | exact ev_nil | (refine ev_cons is_con ?_))) (by decide +kernel)) (by decide +kernel) (by decide +kernel) fun z hz s2 D2 => ?_)) ?_ ?_)
    · obtain ⟨i, rfl, i0, i2⟩ := chg_in hz
      refine ⟨i, rfl, i0, by omega, fun items hl => ⟨by omega, D2, _, d, rfl, g.up (by omega) (by omega)⟩⟩
    · rintro v vs e s2 ⟨hl, D2, y4, d2, rfl, g2⟩
      rw [List.length_cons] at hl
      refine wpO_of (a := [some scr, some (.r kd), x2, some (.p d2), some v, x5, x6, x7]) rfl (s_asg (x_call (l_cons (x_var rfl (l_cons (x_var rfl (l_nil (wpR.any (g_bent (9 + 3 * (2 - (v :: vs).length)) (n + 8) (by omega) (64 + (2 - (v :: vs).length)) d2 s2 (by omega) (by omega) g2 D2) ?_))))))))
      rintro w s3 ⟨d3, rfl, g3, D3⟩
      refine ⟨by omega, D3, some v, d3, rfl, g3.up ?_ ?_⟩ <;> rw [List.length_cons] <;> omega
    · rintro e s2 ⟨hl, D2, y4, d2, rfl, g2⟩
      exact g_rest (by omega) D2 g2 fun x5 x6 x7 => q _ _ D2 ⟨_, _, _, _, _, _, rfl⟩
  refine s_seq (s_asg (x_ite (x_cmp (x_take (size := 5) D0 rfl is_con (by decide) (by decide) fun j s1 j0 j1 D1 => x_con ?_))))
  refine wpO_of (a := j == 0) (eq_ints j 0) (wpO_of (a := j == 0) rfl (wpB_mk (fun _ => ?_) fun _ => ?_))
  · refine x_call (l_cons (x_var rfl (l_nil (wpR.any (g_long D1) ?_))))
    rintro v s2 ⟨d, rfl, g, D2⟩
    exact cont d s2 g D2
  · refine x_call (l_cons (x_var rfl (l_cons (x_con (l_cons (x_con (l_nil (wpR.any (g_body (k := 3) (n := n + 6) (by decide) (by decide) (g_bodyS 3 (n + 6) (by omega)).1 D1) ?_))))))))
    rintro v s2 ⟨d, rfl, g, D2⟩
    exact cont d s2 g D2
end
theorem law_key {n : Nat} {ns : List Int} (hN : 60 ≤ n) (hn : ns.length ≤ 63) : wpF (execS (kitOf pg (n + 8)) pg.fields b_law [some (.p (.list (ns.map .int))), none, none, none, none, none, none, none] []) { nx := fun _ _ => False, rt := fun v s => v = .p (.bool true) } := by
  rw [law_eq]
  refine s_seq (s_asg (x_call (l_cons (x_var rfl (l_nil (wpR.any (g_begin hn) ?_))))))
  rintro v s ⟨kd, L, rfl, D⟩
  generalize hl : PyData.list (ns.map .int) = scr at *
  refine s_seq (s_for (fun items e s => DS kd L s ∧ LE kd (.p scr) e) (i_rngJ ?_) ?_ ?_)
  · have c1 := is_add (K := kitOf pg (n + 8)) (env := [some (.p scr), some (.r kd), none, none, none, none, none, none]) (st := s) (is_con (d := .int 6)) (is_min (len_list (is_var (i := 0) (by rw [← hl]; rfl))) (is_con (d := .int 20)))
    refine c1.wp ⟨_, rfl, ?_, ?_, fun items _ => ⟨D, _, _, _, _, _, _, rfl⟩⟩
    · split <;> omega
    · split <;> omega
  · rintro v vs e s2 ⟨D2, x2, x3, x4, x5, x6, x7, rfl⟩
    exact wpO_of (a := [some (.p scr), some (.r kd), some v, x3, x4, x5, x6, x7]) rfl (g_turn (by omega) D2 ⟨_, _, _, _, _, _, rfl⟩ fun e s' D' h => ⟨D', h⟩)
  · rintro e s2 ⟨D2, x2, x3, x4, x5, x6, x7, rfl⟩
    dsimp only
    refine s_ret (x_call (l_cons (x_var rfl (l_nil (wpR.any (g_public (by omega) D2) ?_)))))
    rintro v s3 ⟨d, rfl, rfl, D3⟩
    rfl
theorem law_ok {n : Nat} {ns : List Int} (hN : 60 ≤ n) (hn : ns.length ≤ 63) : ∃ st, runF pg (n + 9) i_law [.p (.list (ns.map .int))] [] = .ok (.p (.bool true)) st := by
  have key := law_key hN hn
  rw [runF]
  show ∃ st, (match execS (kitOf pg (n + 8)) pg.fields b_law [some (.p (.list (ns.map .int))), none, none, none, none, none, none, none] [] with
        | .rt v s1 => leave false 0 v s1
        | .nx _ s1 => leave false 0 (.p .none) s1
        | .er c fs _ s1 => leaveE false 0 c fs s1
        | .bk _ _ => .no
        | .ct _ _ => .no
        | .no => .no) = .ok (.p (.bool true)) st
  revert key
  cases execS (kitOf pg (n + 8)) pg.fields b_law [some (.p (.list (ns.map .int))), none, none, none, none, none, none, none] [] with
  | nx e1 s => exact fun h => h.elim
  | rt v s =>
    intro h
    have h : v = .p (.bool true) := h
    subst h
    exact ⟨[], rfl⟩
  | er c fs e1 s => exact fun h => h.elim
  | bk e1 s => exact fun h => h.elim
  | ct e1 s => exact fun h => h.elim
  | no => exact fun h => h.elim
end K05
end

section
namespace K05
open PySem PySem.Spec PyProof.Rows L2 Vm
theorem fin (fuel : Nat) (hf : fuel ≤ 200) (plain : ∀ ns : List Int, ns.length ≤ 63 → ∃ st, runF pg fuel iLaw [.p (.list (ns.map .int))] [] = .ok (.p (.bool true)) st) : RW.Holds := by
  open PySem.W PySem.Calls in
  w_on; o_law
  refine HandSHeadRun.head_any (r := R) (q := PySem.W.view R.prog [46]) (H := hk) (ob := ob) (M := 2000) (loose := nms) (d := HandSHeadRun.topDef R.prog 46) (kwd := []) ob_eq
    (by kernel_rfl) (fun s => by kernel_rfl) run (by kernel_rfl) (by kernel_rfl) (by kernel_rfl) (by rfl) (by first | assumption | decide +kernel) (by decide +kernel) ⟨rfl, rfl, rfl, rfl, rfl, by decide +kernel⟩ ?hw ?hc
  case hw => w_witness2
  case hc =>
    refine walk_ofV (l := RW) (n := 63) (k := fuel) (x := "_law_script") rfl (by decide) (by kernel_rfl) ⟨rfl, by show 1 + claimMargin + 3 * fuel + 5 < 1000; have : claimMargin ≤ 300 := (by decide); omega, by show 4 + 16 * fuel + 200 < 9900; omega⟩ ?F
    intro w mg fa h Y G hmg0
    obtain ⟨K, KX, nl, c⟩ := Y
    exact law_end (t := ft33) (i := iLaw) look kws rfl KX nl G c hmg0 rfl (by decide +kernel) (fun _ => rfl) (fun _ _ => rfl) (fun _ _ => rfl) rfl plain
end K05
end
theorem PySem.Challenge.cw_modcore_k05_bodies_holds : PySem.Challenge.rw_modcore_k05_bodies.Holds :=
  K05.fin (60 + 9) (by decide) fun ns h => K05.law_ok (n := 60) (Nat.le_refl _) h
