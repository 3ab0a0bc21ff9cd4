import PyProof.Rows.All
import Wide.All
import OpenK.AllK
import Wide.FinOn
import HandS.ForMost
import HandS.IsInst
import HandS.TupAny
import HandS.Flow
import KE.KeyNested
import HandS.Deep
import HandS.Style
import PyProof.P3In
import HandS.Zip
import HandS.Rev
import HandS.TupSets
import HandS.SetTxt0
import KE.SortData
import PySem.Challenge.RW_nestviews_k61_places_of_bags
set_option Elab.async false
set_option linter.all false
set_option maxRecDepth 100000
/-! NvDef: a small interpreter over plain data. -/
namespace Nv
open PySem L2

/-- plain data; obj: a place of the store -/
inductive D where
  | non | bl (b : Bool) | int (i : Int) | str (x : Str) | tup (xs : List D) | lf (xs : List D) | obj (i : Nat)
/-- what stands in the store: a list, a dict (lf above: a list that never changes) -/
inductive Ob where
  | lst (xs : List D) | dct (kvs : List (D × D))
abbrev Loc := List (Option D)
abbrev Sto := List Ob
inductive Res (α : Type) where
  | ok (a : α) (s : Sto) | ex (x : D) (s : Sto) | no
def Res.bind {α β : Type} (r : Res α) (f : α → Sto → Res β) : Res β :=
  match r with
  | .ok a s => f a s
  | .ex x s => .ex x s
  | .no => .no
@[simp] theorem bind_ok {α β : Type} (a : α) (s : Sto) (f : α → Sto → Res β) : (Res.ok a s).bind f = f a s := rfl
@[simp] theorem bind_ex {α β : Type} (x : D) (s : Sto) (f : α → Sto → Res β) : (Res.ex x s : Res α).bind f = .ex x s := rfl
@[simp] theorem bind_no {α β : Type} (f : α → Sto → Res β) : (Res.no : Res α).bind f = .no := rfl
abbrev M (α : Type) := Loc → Sto → Res α
def ofO {α : Type} (o : Option α) (s : Sto) : Res α :=
  match o with
  | some a => .ok a s
  | none => .no
@[simp] theorem ofO_some {α : Type} (a : α) (s : Sto) : ofO (some a) s = .ok a s := rfl
@[simp] theorem ofO_none {α : Type} (s : Sto) : ofO (none : Option α) s = .no := rfl

/-- a result that isn't in the store yet: a value, a fresh list -/
inductive RD where
  | d (x : D) | l (xs : List D)
/-- what is walked: the items, and the list's place where it may change -/
structure Its where
  ds : List D
  src : Option (Nat × List D)

/-! ### values -/
mutual
def pyW (g : Nat → Option PyData) : D → Option PyData
  | .non => some .none
  | .bl b => some (.bool b)
  | .int i => some (.int i)
  | .str x => some (.str x)
  | .tup xs => (pyWs g xs).map .tuple
  | .lf xs => (pyWs g xs).map .list
  | .obj i => g i
def pyWs (g : Nat → Option PyData) : List D → Option (List PyData)
  | [] => some []
  | x :: r => (pyW g x).bind fun p => (pyWs g r).map (p :: ·)
end
def pyN (s : Sto) : Nat → D → Option PyData
  | 0, x => pyW (fun _ => none) x
  | n + 1, x => pyW (fun i => match s[i]? with
      | some (.lst xs) => (xs.mapM (pyN s n)).map .list
      | _ => none) x
def pyR (s : Sto) : RD → Option PyData
  | .d x => pyN s 3 x
  | .l xs => (xs.mapM (pyN s 2)).map .list
def eqR (s : Sto) (a b : RD) : Option Bool :=
  match pyR s a, pyR s b with
  | some x, some y => if SeqAt.shaped x = true ∧ SeqAt.shaped y = true then some (PyData.eqv x y) else none
  | _, _ => none
def lstAt (s : Sto) (i : Nat) : Option (List D) :=
  match s[i]? with
  | some (.lst xs) => some xs
  | _ => none
/-- a list's items -/
def asL (s : Sto) : RD → Option (List D)
  | .l xs => some xs
  | .d (.lf xs) => some xs
  | .d (.obj i) => lstAt s i
  | _ => none
/-- .. of a list that may change -/
def asM (s : Sto) : RD → Option (List D)
  | .l xs => some xs
  | .d (.obj i) => lstAt s i
  | _ => none
/-- a list's or tuple's items -/
def asQ (s : Sto) : RD → Option (List D)
  | .l xs => some xs
  | .d (.lf xs) => some xs
  | .d (.obj i) => lstAt s i
  | .d (.tup xs) => some xs
  | _ => none
def truthR (s : Sto) : RD → Option Bool
  | .l xs => some (!xs.isEmpty)
  | .d .non => some false
  | .d (.bl b) => some b
  | .d (.int i) => some (i != 0)
  | .d (.str x) => if x.length ≤ sizeLine then some ((x.length : Int) != 0) else none
  | .d (.tup xs) => some (!xs.isEmpty)
  | .d (.lf xs) => some (!xs.isEmpty)
  | .d (.obj i) => (lstAt s i).map fun xs => !xs.isEmpty
def signsD (x : Str) : List D := x.cps.toList.map fun c => .str ⟨#[c]⟩
def itsR (s : Sto) : RD → Option Its
  | .l xs => some ⟨xs, none⟩
  | .d (.tup xs) => some ⟨xs, none⟩
  | .d (.lf xs) => some ⟨xs, none⟩
  | .d (.str x) => some ⟨signsD x, none⟩
  | .d (.obj i) => match s[i]? with
    | some (.lst xs) => some ⟨xs, some (i, xs)⟩
    | _ => none
  | _ => none

/-! ### operators -/
inductive Bop where
  | add | sub | mul | fdiv | mod | pow
  deriving DecidableEq
def Bop.op : Bop → Operator
  | .add => .Add | .sub => .Sub | .mul => .Mult | .fdiv => .FloorDiv | .mod => .Mod | .pow => .Pow
def catR (xs ys : List D) (k : List D → RD) : Option RD := if xs.length + ys.length ≤ sizeLine then some (k (xs ++ ys)) else none
open Classical in
noncomputable def binI (o : Bop) (i j : Int) : Option Int :=
  match o with
  | .add => some (i + j)
  | .sub => some (i - j)
  | .mul => if CMul i j then some (i * j) else none
  | .fdiv => if CDivN i j then some (i.fdiv j) else none
  | .mod => if j ≠ 0 then some (i.fmod j) else none
  | .pow => if CPow i j then some (i ^ j.toNat) else none
noncomputable def binR (o : Bop) (s : Sto) (a b : RD) : Option RD :=
  match a, b with
  | .d (.int i), .d (.int j) => (binI o i j).map fun k => .d (.int k)
  | .d (.str x), .d (.str y) => if o = .add ∧ x.length + y.length ≤ sizeLine then some (.d (.str (x ++ y))) else none
  | .d (.tup xs), .d (.tup ys) => if o = .add then catR xs ys fun zs => .d (.tup zs) else none
  | a, b => match asM s a, asM s b with
    | some xs, some ys => if o = .add then catR xs ys .l else none
    | _, _ => none
inductive Cop where
  | eq | ne | lt | le | gt | ge | is | isn | inn | nin
  deriving DecidableEq
def Cop.op : Cop → CmpOp
  | .eq => .Eq | .ne => .NotEq | .lt => .Lt | .le => .LtE | .gt => .Gt | .ge => .GtE | .is => .Is | .isn => .IsNot | .inn => .In | .nin => .NotIn
def strIn (x y : Str) : Bool := !(Builtin.Str.occurrences y x 0 y.length 1).isEmpty
def inR (s : Sto) (a b : RD) : Option Bool :=
  match a, b with
  | .d (.str x), .d (.str y) => some (strIn x y)
  | a, b => match (asQ s b).bind fun ys => ys.mapM (pyN s 2), pyR s a with
    | some qs, some x => if SeqAt.shaped x = true ∧ SeqAt.shaped (.list qs) = true then some (qs.any fun z => PyData.eqv z x) else none
    | _, _ => none
def ltR (a b : RD) : Option Bool :=
  match a, b with
  | .d (.int i), .d (.int j) => some (decide (i < j))
  | .d (.str x), .d (.str y) => some (decide (x.cps.toList < y.cps.toList))
  | _, _ => none
def leR (a b : RD) : Option Bool :=
  match a, b with
  | .d (.int i), .d (.int j) => some (decide (i ≤ j))
  | .d (.str x), .d (.str y) => some (!decide (y.cps.toList < x.cps.toList))
  | _, _ => none
def isR (a b : RD) : Option Bool :=
  match a, b with
  | .d x, .d .non => some (match x with | .non => true | _ => false)
  | .l _, .d .non => some false
  | _, _ => none
def cmpR (o : Cop) (s : Sto) (a b : RD) : Option Bool :=
  match o with
  | .eq => eqR s a b
  | .ne => (eqR s a b).map (!·)
  | .lt => ltR a b
  | .gt => ltR b a
  | .le => leR a b
  | .ge => leR b a
  | .is => isR a b
  | .isn => (isR a b).map (!·)
  | .inn => inR s a b
  | .nin => (inR s a b).map (!·)

/-! ### built-ins -/
inductive Ty where
  | str | int | bool | tuple | list | dict
  deriving DecidableEq
def Ty.name : Ty → String
  | .str => "str" | .int => "int" | .bool => "bool" | .tuple => "tuple" | .list => "list" | .dict => "dict"
def isinR (s : Sto) (t : Ty) : RD → Option Bool
  | .l _ => some (t = .list)
  | .d .non => some false
  | .d (.bl _) => some (t = .bool ∨ t = .int)
  | .d (.int _) => some (t = .int)
  | .d (.str _) => some (t = .str)
  | .d (.tup _) => some (t = .tuple)
  | .d (.lf _) => some (t = .list)
  | .d (.obj i) => (lstAt s i).map fun _ => decide (t = .list)
inductive B1 where
  | len | tuple | list | all | any | sum | int | abs
  deriving DecidableEq
def B1.name : B1 → String
  | .len => "len" | .tuple => "tuple" | .list => "list" | .all => "all" | .any => "any" | .sum => "sum" | .int => "int" | .abs => "abs"
def blsOf : List D → Option (List Bool)
  | [] => some []
  | .bl b :: r => (blsOf r).map (b :: ·)
  | _ :: _ => none
def intsOf : List D → Option (List Int)
  | [] => some []
  | .int b :: r => (intsOf r).map (b :: ·)
  | _ :: _ => none
def b1R (f : B1) (s : Sto) (a : RD) : Option RD :=
  match f with
  | .len => match a with
    | .d (.str x) => if x.length ≤ sizeLine then some (.d (.int x.length)) else none
    | a => (asQ s a).map fun xs => .d (.int xs.length)
  | .tuple => (asQ s a).map fun xs => .d (.tup xs)
  | .list => (asQ s a).map .l
  | .all => ((asL s a).bind blsOf).map fun bs => .d (.bl (bs.all id))
  | .any => ((asL s a).bind blsOf).map fun bs => .d (.bl (bs.any id))
  | .sum => ((asL s a).bind intsOf).map fun bs => .d (.int bs.sum)
  | .int => match a with
    | .d (.int i) => some (.d (.int i))
    | .d (.bl b) => some (.d (.int (if b then 1 else 0)))
    | _ => none
  | .abs => match a with
    | .d (.int i) => some (.d (.int (if i < 0 then -i else i)))
    | _ => none
/-! sets that are asked at once -/
def uniq {α : Type} [DecidableEq α] : List α → List α
  | [] => []
  | x :: r => if x ∈ r then uniq r else x :: uniq r
def strsOf : List D → Option (List Str)
  | [] => some []
  | .str x :: r => (strsOf r).map (x :: ·)
  | _ :: _ => none
def leS (a b : Str) : Bool := decide (a.cps.toList ≤ b.cps.toList)
mutual
def keyOf : D → Option NestedKey
  | .non => some .none
  | .bl b => some (.num (if b = true then 1 else 0))
  | .int i => some (.num i)
  | .str x => some (.text x)
  | .tup xs => (keysOf xs).map .tup
  | .lf _ => none
  | .obj _ => none
def keysOf : List D → Option (List NestedKey)
  | [] => some []
  | x :: r => (keyOf x).bind fun k => (keysOf r).map (k :: ·)
end
def tupK : NestedKey → Bool
  | .tup ks => decide (NestedKey.depth (.tup ks) ≤ 8)
  | _ => false
inductive FS where
  | sortset | lenset
  deriving DecidableEq
def FS.name : FS → String
  | .sortset => "sorted" | .lenset => "len"
def fsR (f : FS) (s : Sto) (x : RD) : Option RD :=
  (asL s x).bind fun ds => if ds.length < 64 then match f with
    | .sortset => (strsOf ds).map fun ss => .l (((uniq ss).mergeSort leS).map .str)
    | .lenset => match strsOf ds with
      | some ss => some (.d (.int (uniq ss).length))
      | none => (keysOf ds).bind fun ks => if ks.all tupK = true then some (.d (.int (uniq ks).length)) else none
    else none
def small62 (i : Int) : Prop := -(2 ^ 62) ≤ i ∧ i < 2 ^ 62
instance (i : Int) : Decidable (small62 i) := by unfold small62; infer_instance
def upTo (lo : Int) : Nat → List D
  | 0 => []
  | n + 1 => .int lo :: upTo (lo + 1) n
/-- things that are only walked -/
inductive I1 where
  | range | reversed | enumerate
  deriving DecidableEq
def I1.name : I1 → String
  | .range => "range" | .reversed => "reversed" | .enumerate => "enumerate"
def numbered : Nat → List D → List D
  | _, [] => []
  | k, x :: r => .tup [.int k, x] :: numbered (k + 1) r
/-- a list's place where it may change -/
def srcR (s : Sto) : RD → Option (Nat × List D)
  | .d (.obj i) => (lstAt s i).map fun xs => (i, xs)
  | _ => none
def i1R (f : I1) (s : Sto) (a : RD) : Option Its :=
  match f with
  | .range => match a with
    | .d (.int j) => if small62 j then some ⟨upTo 0 j.toNat, none⟩ else none
    | _ => none
  | .reversed => (asQ s a).map fun xs => ⟨xs.reverse, srcR s a⟩
  | .enumerate => (asL s a).map fun xs => ⟨numbered 0 xs, srcR s a⟩
inductive B2 where
  | max | min
  deriving DecidableEq
def B2.name : B2 → String
  | .max => "max" | .min => "min"
def b2R (f : B2) (s : Sto) (a b : RD) : Option RD :=
  match f, a, b with
  | .max, .d (.int i), .d (.int j) => some (.d (.int (if j > i then j else i)))
  | .min, .d (.int i), .d (.int j) => some (.d (.int (if j < i then j else i)))
  | _, _, _ => none
inductive I2 where
  | range | zip
  deriving DecidableEq
def I2.name : I2 → String
  | .range => "range" | .zip => "zip"
def zipD : List D → List D → List D
  | x :: r, y :: q => .tup [x, y] :: zipD r q
  | _, _ => []
def i2R (f : I2) (s : Sto) (a b : RD) : Option Its :=
  match f with
  | .range => match a, b with
    | .d (.int i), .d (.int j) => if small62 i ∧ small62 j then some ⟨upTo i (j - i).toNat, none⟩ else none
    | _, _ => none
  | .zip => match a, b with
    | .d (.obj _), _ => none
    | _, .d (.obj _) => none
    | .d (.tup xs), .d (.tup ys) => some ⟨zipD xs ys, none⟩
    | a, b => match asL s a, asL s b with
      | some xs, some ys => some ⟨zipD xs ys, none⟩
      | _, _ => none
def ixR (s : Sto) (a b : RD) : Option RD :=
  match b with
  | .d (.int i) => match a with
    | .d (.str x) => if x.length ≤ sizeLine then (atI x.cps.toList i).map fun c => .d (.str ⟨#[c]⟩) else none
    | a => (asQ s a).bind fun xs => (atI xs i).map .d
  | _ => none
def cutD (xs : List D) (lo hi : Option Int) : List D := (xs.drop (HT.sIx xs.length 0 lo)).take (HT.sIx xs.length xs.length hi - HT.sIx xs.length 0 lo)
def slR (s : Sto) (a : RD) (lo hi : Option Int) : Option RD :=
  match a with
  | .d (.str x) => if x.length ≤ sizeLine then some (.d (.str (cutS x lo hi))) else none
  | .d (.tup xs) => some (.d (.tup (cutD xs lo hi)))
  | a => (asL s a).map fun xs => .l (cutD xs lo hi)
/-- methods of built-in things -/
inductive M1 where
  | append | extend
  deriving DecidableEq
def M1.name : M1 → String
  | .append => "append" | .extend => "extend"
def m1R (m : M1) (o : D) (a : RD) (s : Sto) : Res RD :=
  match o with
  | .obj i => match m, s[i]?, a with
    | .append, some (.lst xs), .d x => if xs.length < sizeLine then .ok (.d .non) (s.set i (.lst (xs ++ [x]))) else .no
    | .extend, some (.lst xs), a => match asM s a with
      | some ys => if xs.length + ys.length ≤ sizeLine then .ok (.d .non) (s.set i (.lst (xs ++ ys))) else .no
      | none => .no
    | _, _, _ => .no
  | _ => .no
inductive M0 where
  | reverse | clear | pop
  deriving DecidableEq
def M0.name : M0 → String
  | .reverse => "reverse" | .clear => "clear" | .pop => "pop"
def m0R (m : M0) (o : D) (s : Sto) : Res RD :=
  match o with
  | .obj i => match m, s[i]? with
    | .reverse, some (.lst xs) => .ok (.d .non) (s.set i (.lst xs.reverse))
    | .clear, some (.lst xs) => .ok (.d .non) (s.set i (.lst []))
    | _, _ => .no
  | _ => .no

def isLstB (s : Sto) : D → Bool
  | .obj i => (lstAt s i).isSome
  | _ => false
/-! ### the language -/
inductive Tg where
  | v (i : Nat) | n | c (a b : Tg)
inductive Ex where
  | nil | cons (a b : Ex)
  | var (i : Nat) | int (z : Int) | str (x : Str) | bl (b : Bool) | non
  | gc (j : Nat)
  | tup (es : Ex) | lst (es : Ex)
  | bin (o : Bop) (a b : Ex) | neg (a : Ex) | nt (a : Ex)
  | cmp (o : Cop) (a b : Ex)
  | and (a b : Ex) | or (a b : Ex) | ife (c a b : Ex)
  | call (f : Nat) (es : Ex)
  | b1 (f : B1) (a : Ex) | b2 (f : B2) (a b : Ex) | i1 (f : I1) (a : Ex) | i2 (f : I2) (a b : Ex) | isin (a : Ex) (t : Ty) | fs (f : FS) (a : Ex)
  | m0 (m : M0) (o : Ex) | m1 (m : M1) (o a : Ex)
  | ix (a b : Ex) | sl (a lo hi : Ex)
  | cp (elt : Ex) (tg : Tg) (it : Ex) (c : Ex) (own : List Nat)
/-- a walk that only a tuple of targets takes -/
def Ex.tupIt : Ex → Bool
  | .i1 .enumerate _ => true
  | .i2 .zip _ _ => true
  | _ => false
def Ex.isNil : Ex → Bool
  | .nil => true
  | _ => false
inductive Sm where
  | nil | cons (a b : Sm)
  | ex (e : Ex) | set (tg : Tg) (e : Ex) | setI (o i e : Ex) | aug (i : Nat) (o : Bop) (e : Ex)
  | ret (e : Ex) | retN | ifs (c : Ex) (a b : Sm) | for_ (tg : Tg) (it : Ex) (b : Sm) | wh (c : Ex) (b : Sm)
  | brk | cnt | pass

mutual
/-- an assignment to a target -/
def bindT : Tg → D → Loc → Option Loc
  | .v i, d, l => if i < l.length then some (l.set i (some d)) else none
  | t, .tup ds, l => bindTs t ds l
  | _, _, _ => none
def bindTs : Tg → List D → Loc → Option Loc
  | .n, [], l => some l
  | .c a b, d :: ds, l => (bindT a d l).bind (bindTs b ds)
  | _, _, _ => none
end

def allocR (r : Res RD) : Res D := r.bind fun a s => match a with
  | .d x => .ok x s
  | .l xs => .ok (.obj s.length) (s ++ [.lst xs])

structure Den where
  r : M RD
  b : M Bool
  i : M Its
  vs : M (List D)
def Den.v (a : Den) : M D := fun l s => allocR (a.r l s)
def noM {α : Type} : M α := fun _ _ => .no
/-- an expression by its result: its truth, its walk by that -/
def mkR (m : M RD) : Den where
  r := m
  b := fun l s => (m l s).bind fun a s1 => ofO (truthR s1 a) s1
  i := fun l s => (m l s).bind fun a s1 => ofO (itsR s1 a) s1
  vs := noM
def mkI (m : M Its) : Den := ⟨noM, noM, m, noM⟩
/-- .. that is no test -/
def mkQ (m : M RD) : Den where
  r := m
  b := noM
  i := fun l s => (m l s).bind fun a s1 => ofO (itsR s1 a) s1
  vs := noM
/-- an expression by a truth -/
def mkB (r : M RD) (b : M Bool) : Den := ⟨r, b, noM, noM⟩

def srcOk (src : Option (Nat × List D)) (s : Sto) : Prop :=
  match src with
  | none => True
  | some (i, xs) => s[i]? = some (.lst xs)
def wipeL (l : Loc) : List Nat → Loc
  | [] => l
  | v :: vs => (wipeL l vs).set v none
open Classical in
/-- the turns of a comprehension -/
noncomputable def cpLoop (tg : Tg) (src : Option (Nat × List D)) (c : M Bool) (e : M D) (l : Loc) : List D → List D → Sto → Res (List D)
  | [], acc, s => if srcOk src s then .ok acc s else .no
  | x :: xs, acc, s => if srcOk src s then (match bindT tg x l with
    | none => .no
    | some l1 => (c l1 s).bind fun t s1 =>
      if t = true then (e l1 s1).bind fun y s2 =>
        if acc.length < sizeLine then cpLoop tg src c e l xs (acc ++ [y]) s2 else .no
      else cpLoop tg src c e l xs acc s1) else .no

/-- a slice's part -/
def optI (skip : Bool) (m : M RD) : M (Option Int) := fun l s =>
  if skip = true then .ok none s else (m l s).bind fun y s2 => match y with
    | .d (.int i) => .ok (some i) s2
    | _ => .no
noncomputable def den (cf : Nat → List D → Sto → Res D) (gc : Nat → Option D) : Ex → Den
  | .nil => ⟨noM, fun l s => .ok true s, noM, fun l s => .ok [] s⟩
  | .cons a b => ⟨noM, noM, noM, fun l s => ((den cf gc a).v l s).bind fun x s1 => ((den cf gc b).vs l s1).bind fun xs s2 => .ok (x :: xs) s2⟩
  | .var i => mkR fun l s => match l[i]? with
    | some (some d) => .ok (.d d) s
    | _ => .no
  | .int z => mkR fun _ s => .ok (.d (.int z)) s
  | .str x => mkR fun _ s => .ok (.d (.str x)) s
  | .bl b => mkR fun _ s => .ok (.d (.bl b)) s
  | .non => mkR fun _ s => .ok (.d .non) s
  | .gc j => mkR fun _ s => ofO ((gc j).map .d) s
  | .tup es => mkR fun l s => ((den cf gc es).vs l s).bind fun xs s1 => if xs.length ≤ sizeLine then .ok (.d (.tup xs)) s1 else .no
  | .lst es => mkR fun l s => ((den cf gc es).vs l s).bind fun xs s1 => if xs.length ≤ sizeLine then .ok (.l xs) s1 else .no
  | .bin o a b => mkR fun l s => ((den cf gc a).r l s).bind fun x s1 => ((den cf gc b).r l s1).bind fun y s2 => ofO (binR o s2 x y) s2
  | .neg a => mkR fun l s => ((den cf gc a).r l s).bind fun x s1 => match x with
    | .d (.int i) => .ok (.d (.int (-i))) s1
    | _ => .no
  | .nt a => mkB (fun l s => ((den cf gc a).r l s).bind fun x s1 => match x with
    | .d (.bl b) => .ok (.d (.bl (!b))) s1
    | _ => .no) fun l s => ((den cf gc a).b l s).bind fun t s1 => .ok (!t) s1
  | .cmp o a b => mkB (fun l s => ((den cf gc a).r l s).bind fun x s1 => ((den cf gc b).r l s1).bind fun y s2 => ofO ((cmpR o s2 x y).map fun t => .d (.bl t)) s2)
    fun l s => ((den cf gc a).r l s).bind fun x s1 => ((den cf gc b).r l s1).bind fun y s2 => ofO (cmpR o s2 x y) s2
  | .and a b => mkB (fun l s => ((den cf gc a).r l s).bind fun x s1 => match x with
    | .d (.bl true) => (den cf gc b).r l s1
    | .d (.bl false) => .ok (.d (.bl false)) s1
    | _ => .no) fun l s => ((den cf gc a).b l s).bind fun t s1 => if t = true then (den cf gc b).b l s1 else .ok false s1
  | .or a b => mkB (fun l s => ((den cf gc a).r l s).bind fun x s1 => match x with
    | .d (.bl false) => (den cf gc b).r l s1
    | .d (.bl true) => .ok (.d (.bl true)) s1
    | _ => .no) fun l s => ((den cf gc a).b l s).bind fun t s1 => if t = true then .ok true s1 else (den cf gc b).b l s1
  | .ife c a b => mkQ fun l s => ((den cf gc c).b l s).bind fun t s1 => if t = true then (den cf gc a).r l s1 else (den cf gc b).r l s1
  | .call f es => mkR fun l s => ((den cf gc es).vs l s).bind fun ds s1 => (cf f ds s1).bind fun d s2 => .ok (.d d) s2
  | .b1 f a => mkR fun l s => ((den cf gc a).r l s).bind fun x s1 => ofO (b1R f s1 x) s1
  | .b2 f a b => mkR fun l s => ((den cf gc a).r l s).bind fun x s1 => ((den cf gc b).r l s1).bind fun y s2 => ofO (b2R f s2 x y) s2
  | .i1 f a => mkI fun l s => ((den cf gc a).r l s).bind fun x s1 => ofO (i1R f s1 x) s1
  | .i2 f a b => mkI fun l s => ((den cf gc a).r l s).bind fun x s1 => ((den cf gc b).r l s1).bind fun y s2 => ofO (i2R f s2 x y) s2
  | .isin a t => mkR fun l s => ((den cf gc a).r l s).bind fun x s1 => ofO ((isinR s1 t x).map fun b => .d (.bl b)) s1
  | .fs f a => mkR fun l s => ((den cf gc a).r l s).bind fun x s1 => ofO (fsR f s1 x) s1
  | .m0 m o => mkR fun l s => ((den cf gc o).v l s).bind fun x s1 => m0R m x s1
  | .m1 m o a => mkR fun l s => ((den cf gc o).v l s).bind fun x s1 => if isLstB s1 x = true then
      (if m = .append then ((den cf gc a).v l s1).bind fun y s2 => m1R m x (.d y) s2 else ((den cf gc a).r l s1).bind fun y s2 => m1R m x y s2) else .no
  | .ix a b => mkR fun l s => ((den cf gc a).r l s).bind fun x s1 => ((den cf gc b).r l s1).bind fun y s2 => ofO (ixR s2 x y) s2
  | .sl a lo hi => mkR fun l s => ((den cf gc a).r l s).bind fun x s1 =>
      (optI lo.isNil (den cf gc lo).r l s1).bind fun i s2 => (optI hi.isNil (den cf gc hi).r l s2).bind fun j s3 => ofO (slR s3 x i j) s3
  | .cp elt tg it c own => mkR fun l s => ((den cf gc it).i l s).bind fun its s1 =>
      (cpLoop tg its.src (den cf gc c).b (den cf gc elt).v (wipeL l own) its.ds [] s1).bind fun ys s2 => .ok (.l ys) s2

/-! ### statements -/
inductive Fl where
  | nx | bk | ct | rt (d : D)
abbrev SM := Loc → Sto → Res (Fl × Loc)
open Classical in
noncomputable def forLoop (tg : Tg) (src : Option (Nat × List D)) (body : SM) : List D → Loc → Sto → Res (Fl × Loc)
  | [], l, s => if srcOk src s then .ok (.nx, l) s else .no
  | x :: xs, l, s => if srcOk src s then (match bindT tg x l with
    | none => .no
    | some l1 => (body l1 s).bind fun fl s1 => match fl.1 with
      | .nx => forLoop tg src body xs fl.2 s1
      | .ct => forLoop tg src body xs fl.2 s1
      | .bk => .ok (.nx, fl.2) s1
      | .rt d => .ok (.rt d, fl.2) s1) else .no
def whLoop (c : M Bool) (body : SM) : Nat → Loc → Sto → Res (Fl × Loc)
  | 0, _, _ => .no
  | n + 1, l, s => (c l s).bind fun t s0 => if t = true then (body l s0).bind fun fl s1 => match fl.1 with
      | .nx => whLoop c body n fl.2 s1
      | .ct => whLoop c body n fl.2 s1
      | .bk => .ok (.nx, fl.2) s1
      | .rt d => .ok (.rt d, fl.2) s1
    else .ok (.nx, l) s0
/-- o[i] = d -/
def setR (o i d : D) (s : Sto) : Res Unit :=
  match o, i with
  | .obj p, .int k => match s[p]? with
    | some (.lst xs) => match ixN xs.length k with
      | some j => .ok () (s.set p (.lst (xs.set j d)))
      | none => .no
    | _ => .no
  | _, _ => .no
/-- x o= y -/
def augR (o : Bop) (x : D) (y : RD) : Option D :=
  match o, x, y with
  | .add, .int a, .d (.int b) => some (.int (a + b))
  | .sub, .int a, .d (.int b) => some (.int (a - b))
  | .add, .str a, .d (.str b) => if a.length + b.length ≤ sizeLine then some (.str (a ++ b)) else none
  | _, _, _ => none
/-- turns of a while -/
def whileFuel : Nat := 1000000
noncomputable def sden (cf : Nat → List D → Sto → Res D) (gc : Nat → Option D) : Sm → SM
  | .nil => fun l s => .ok (.nx, l) s
  | .cons a b => fun l s => (sden cf gc a l s).bind fun fl s1 => match fl.1 with
    | .nx => sden cf gc b fl.2 s1
    | f => .ok (f, fl.2) s1
  | .ex e => fun l s => ((den cf gc e).r l s).bind fun _ s1 => .ok (.nx, l) s1
  | .set tg e => fun l s => ((den cf gc e).v l s).bind fun d s1 => match bindT tg d l with
    | some l1 => .ok (.nx, l1) s1
    | none => .no
  | .setI o i e => fun l s => ((den cf gc e).v l s).bind fun d s1 => ((den cf gc o).v l s1).bind fun p s2 => ((den cf gc i).v l s2).bind fun k s3 => (setR p k d s3).bind fun _ s4 => .ok (.nx, l) s4
  | .aug i o e => fun l s => match l[i]? with
    | some (some x) => ((den cf gc e).r l s).bind fun y s1 => (ofO (augR o x y) s1).bind fun d s2 => .ok (.nx, l.set i (some d)) s2
    | _ => .no
  | .ret e => fun l s => ((den cf gc e).v l s).bind fun d s1 => .ok (.rt d, l) s1
  | .retN => fun l s => .ok (.rt .non, l) s
  | .ifs c a b => fun l s => ((den cf gc c).b l s).bind fun t s1 => if t = true then sden cf gc a l s1 else sden cf gc b l s1
  | .for_ tg it b => fun l s => ((den cf gc it).i l s).bind fun its s1 => forLoop tg its.src (sden cf gc b) its.ds l s1
  | .wh c b => fun l s => whLoop (den cf gc c).b (sden cf gc b) whileFuel l s
  | .brk => fun l s => .ok (.bk, l) s
  | .cnt => fun l s => .ok (.ct, l) s
  | .pass => fun l s => .ok (.nx, l) s

/-! ### calls -/
mutual
def D.lt (n : Nat) : D → Bool
  | .tup xs => D.ltAll n xs
  | .lf xs => D.ltAll n xs
  | .obj i => decide (i < n)
  | _ => true
def D.ltAll (n : Nat) : List D → Bool
  | [] => true
  | x :: r => D.lt n x && D.ltAll n r
end
def Ob.lt (n : Nat) : Ob → Bool
  | .lst xs => D.ltAll n xs
  | .dct kvs => kvs.all fun p => D.lt n p.1 && D.lt n p.2
/-- what a call leaves: what it made is let go where nothing leans on it -/
def fin (b : Nat) (d : D) (s : Sto) : Res D :=
  if ((s.take b).all (Ob.lt b)) = true then
    if d.lt b = true then .ok d (s.take b) else
    match d with
    | .obj i => match s[i]? with
      | some o => if o.lt b = true then .ok (.obj b) (s.take b ++ [o]) else .ok d s
      | none => .ok d s
    | _ => .ok d s
  else .ok d s
structure Fn where
  name : Str
  ps : List Str
  ns : List Str
  body : Sm
structure Tab where
  fns : List Fn
  cons : List (Str × D)
  blts : List Str
def Tab.gc (T : Tab) (j : Nat) : Option D := (T.cons[j]?).map (·.2)
noncomputable def runFn (cf : Nat → List D → Sto → Res D) (gc : Nat → Option D) (F : Fn) (ds : List D) (s : Sto) : Res D :=
  if ds.length = F.ps.length then
    (sden cf gc F.body (ds.map some ++ List.replicate (F.ns.length - ds.length) none) s).bind fun fl s1 => match fl.1 with
      | .nx => fin s.length .non s1
      | .rt d => fin s.length d s1
      | _ => .no
  else .no
noncomputable def callN (T : Tab) : Nat → Nat → List D → Sto → Res D
  | 0, _, _, _ => .no
  | n + 1, i, ds, s => match T.fns[i]? with
    | some F => runFn (callN T n) T.gc F ds s
    | none => .no
end Nv

set_option Elab.async false
set_option linter.all false
set_option maxRecDepth 100000
set_option autoImplicit false
/-! NvRel: plain data over the abstract heap. -/
namespace Nv
open PySem PySem.Spec PyProof.Rows L2

/-- a list that never changes -/
def SqF (K : PySem.W.Frag) (H : Hp) (a : Addr) (xs : List V) : Prop := (∃ o, H a = some (.frz o (.lst xs))) ∨
  ∃ (o : Obj) (its : Array Value) (n : Nat), K.lookup a = some o ∧ o.cls = .type "list" ∧ o.dict = none ∧ o.data = .seq its n ∧ its.size ≤ sizeLine ∧ Vals xs its.toList
theorem SqF.sql {K : PySem.W.Frag} {H : Hp} {a : Addr} {xs : List V} (h : SqF K H a xs) : SqL K H a xs := by
  rcases h with h | h
  · exact .inl (.inr h)
  · exact .inr h
mutual
def RV (K : PySem.W.Frag) (ρ : List Addr) (H : Hp) : D → V → Prop
  | .non, v => v = .non
  | .bl b, v => v = .bl b
  | .int i, v => v = .int i
  | .str x, v => v = .str x
  | .tup ds, v => ∃ a vs, v = .ref a ∧ SqT K H a vs ∧ RVs K ρ H ds vs
  | .lf ds, v => ∃ a vs, v = .ref a ∧ SqF K H a vs ∧ RVs K ρ H ds vs
  | .obj i, v => ∃ a : Addr, v = .ref a ∧ ρ[i]? = some a
def RVs (K : PySem.W.Frag) (ρ : List Addr) (H : Hp) : List D → List V → Prop
  | [], vs => vs = []
  | d :: ds, vs => ∃ v r, vs = v :: r ∧ RV K ρ H d v ∧ RVs K ρ H ds r
end
/-- what a heap and a table of places become -/
structure Ext (K : PySem.W.Frag) (ρ : List Addr) (H : Hp) (ρ' : List Addr) (H' : Hp) : Prop where
  pre : ∀ (i : Nat) (a : Addr), ρ[i]? = some a → ρ'[i]? = some a
  tup : ∀ a xs, SqT K H a xs → SqT K H' a xs
  fzl : ∀ a xs, SqF K H a xs → SqF K H' a xs
  oth : ∀ a o, H a = some o → a ∉ ρ → H' a = some o
  new : ∀ a, a ∈ ρ' → a ∈ ρ ∨ H a = none
  bk : ∀ a, H' a = none → H a = none
def ROb (K : PySem.W.Frag) (ρ : List Addr) (H : Hp) (a : Addr) : Ob → Prop
  | .lst xs => ∃ vs, H a = some (.lst vs) ∧ RVs K ρ H xs vs
  | .dct _ => False
structure RS (K : PySem.W.Frag) (ρ : List Addr) (H : Hp) (s : Sto) : Prop where
  len : ρ.length = s.length
  nd : ρ.Nodup
  ob : ∀ (i : Nat) (o : Ob) (a : Addr), s[i]? = some o → ρ[i]? = some a → ROb K ρ H a o
structure RL (K : PySem.W.Frag) (ρ : List Addr) (H : Hp) (σ : L2.St) (l : Loc) : Prop where
  len : l.length = σ.length
  at_ : ∀ (i : Nat) (d : D), l[i]? = some (some d) → ∃ v, σ[i]? = some (some v) ∧ RV K ρ H d v
/-- H₀: the heap ahead of the expression, in which a fresh list did not stand -/
def RR (K : PySem.W.Frag) (H0 : Hp) (ρ : List Addr) (H : Hp) : RD → V → Prop
  | .d x, v => RV K ρ H x v
  | .l xs, v => ∃ a vs, v = .ref a ∧ H a = some (.lst vs) ∧ RVs K ρ H xs vs ∧ a ∉ ρ ∧ H0 a = none

section
variable {K : PySem.W.Frag} {ρ ρ' ρ1 : List Addr} {H H' H1 : Hp} {s : Sto} {σ : L2.St} {l : Loc}
theorem Ext.refl : Ext K ρ H ρ H := ⟨fun _ _ h => h, fun _ _ h => h, fun _ _ h => h, fun _ _ h _ => h, fun _ h => .inl h, fun _ h => h⟩
theorem Ext.trans (e : Ext K ρ H ρ' H') (f : Ext K ρ' H' ρ1 H1) : Ext K ρ H ρ1 H1 where
  pre := fun i a h => f.pre i a (e.pre i a h)
  tup := fun a xs h => f.tup a xs (e.tup a xs h)
  fzl := fun a xs h => f.fzl a xs (e.fzl a xs h)
  oth := fun a o h n => by
    have h1 := e.oth a o h n
    refine f.oth a o h1 fun m => ?_
    rcases e.new a m with m | m
    · exact n m
    · rw [h] at m; cases m
  new := fun a m => by
    rcases f.new a m with m | m
    · exact e.new a m
    · cases q : H a with
      | none => exact .inr rfl
      | some o =>
        by_cases r : a ∈ ρ
        · exact .inl r
        · rw [e.oth a o q r] at m; cases m
  bk := fun a h => e.bk a (f.bk a h)
mutual
theorem RV.mono0 (pre : ∀ (i : Nat) (a : Addr), ρ[i]? = some a → ρ'[i]? = some a) (tup : ∀ a xs, SqT K H a xs → SqT K H' a xs) (fzl : ∀ a xs, SqF K H a xs → SqF K H' a xs) : ∀ (d : D) (v : V), RV K ρ H d v → RV K ρ' H' d v
  | .non, _, h => by unfold RV at *; exact h
  | .bl _, _, h => by unfold RV at *; exact h
  | .int _, _, h => by unfold RV at *; exact h
  | .str _, _, h => by unfold RV at *; exact h
  | .tup ds, _, h => by
    unfold RV at *
    obtain ⟨a, vs, e1, e2, e3⟩ := h
    exact ⟨a, vs, e1, tup a vs e2, RVs.mono0 pre tup fzl ds vs e3⟩
  | .lf ds, _, h => by
    unfold RV at *
    obtain ⟨a, vs, e1, e2, e3⟩ := h
    exact ⟨a, vs, e1, fzl a vs e2, RVs.mono0 pre tup fzl ds vs e3⟩
  | .obj i, _, h => by
    unfold RV at *
    obtain ⟨a, e1, e2⟩ := h
    exact ⟨a, e1, pre i a e2⟩
theorem RVs.mono0 (pre : ∀ (i : Nat) (a : Addr), ρ[i]? = some a → ρ'[i]? = some a) (tup : ∀ a xs, SqT K H a xs → SqT K H' a xs) (fzl : ∀ a xs, SqF K H a xs → SqF K H' a xs) : ∀ (ds : List D) (vs : List V), RVs K ρ H ds vs → RVs K ρ' H' ds vs
  | [], _, h => by unfold RVs at *; exact h
  | d :: ds, _, h => by
    unfold RVs at *
    obtain ⟨v, r, e1, e2, e3⟩ := h
    exact ⟨v, r, e1, RV.mono0 pre tup fzl d v e2, RVs.mono0 pre tup fzl ds r e3⟩
end
theorem RV.mono (e : Ext K ρ H ρ' H') (d : D) (v : V) (h : RV K ρ H d v) : RV K ρ' H' d v := RV.mono0 e.pre e.tup e.fzl d v h
theorem RVs.mono (e : Ext K ρ H ρ' H') (d : List D) (v : List V) (h : RVs K ρ H d v) : RVs K ρ' H' d v := RVs.mono0 e.pre e.tup e.fzl d v h
mutual
theorem RV.widen (pre : ∀ (i : Nat) (a : Addr), ρ[i]? = some a → ρ'[i]? = some a) : ∀ {d : D} {v : V}, RV K ρ H d v → RV K ρ' H d v
  | .non, _, h => by unfold RV at *; exact h
  | .bl _, _, h => by unfold RV at *; exact h
  | .int _, _, h => by unfold RV at *; exact h
  | .str _, _, h => by unfold RV at *; exact h
  | .tup ds, _, h => by
    unfold RV at *
    obtain ⟨a, vs, e1, e2, e3⟩ := h
    exact ⟨a, vs, e1, e2, RVs.widen pre e3⟩
  | .lf ds, _, h => by
    unfold RV at *
    obtain ⟨a, vs, e1, e2, e3⟩ := h
    exact ⟨a, vs, e1, e2, RVs.widen pre e3⟩
  | .obj i, _, h => by
    unfold RV at *
    obtain ⟨a, e1, e2⟩ := h
    exact ⟨a, e1, pre i a e2⟩
theorem RVs.widen (pre : ∀ (i : Nat) (a : Addr), ρ[i]? = some a → ρ'[i]? = some a) : ∀ {ds : List D} {vs : List V}, RVs K ρ H ds vs → RVs K ρ' H ds vs
  | [], _, h => by unfold RVs at *; exact h
  | d :: ds, _, h => by
    unfold RVs at *
    obtain ⟨v, r, e1, e2, e3⟩ := h
    exact ⟨v, r, e1, RV.widen pre e2, RVs.widen pre e3⟩
end
theorem RR.mono {H0 : Hp} (e : Ext K ρ H ρ' H') {a : RD} {v : V} (h : RR K H0 ρ H a v) : RR K H0 ρ' H' a v := by
  cases a with
  | d x => exact RV.mono e x v h
  | l xs =>
    obtain ⟨a, vs, e1, e2, e3, e4, e5⟩ := h
    refine ⟨a, vs, e1, e.oth a _ e2 e4, RVs.mono e xs vs e3, fun m => ?_, e5⟩
    rcases e.new a m with m | m
    · exact e4 m
    · rw [e2] at m; cases m
theorem RL.mono (e : Ext K ρ H ρ' H') (h : RL K ρ H σ l) : RL K ρ' H' σ l := ⟨h.len, fun i d q => by
  obtain ⟨v, h1, h2⟩ := h.at_ i d q
  exact ⟨v, h1, RV.mono e d v h2⟩⟩
theorem RVs.length : ∀ {ds : List D} {vs : List V}, RVs K ρ H ds vs → vs.length = ds.length
  | [], _, h => by unfold RVs at h; rw [h]; rfl
  | d :: ds, _, h => by
    unfold RVs at h
    obtain ⟨v, r, e1, _, e3⟩ := h
    rw [e1, List.length_cons, List.length_cons, RVs.length e3]
theorem RVs.get : ∀ {ds : List D} {vs : List V} {i : Nat} {d : D}, RVs K ρ H ds vs → ds[i]? = some d → ∃ v, vs[i]? = some v ∧ RV K ρ H d v
  | [], _, _, _, _, q => by simp at q
  | x :: ds, _, 0, d, h, q => by
    unfold RVs at h
    obtain ⟨v, r, e1, e2, _⟩ := h
    simp at q
    subst q
    exact ⟨v, by rw [e1]; rfl, e2⟩
  | x :: ds, _, i + 1, d, h, q => by
    unfold RVs at h
    obtain ⟨v, r, e1, _, e3⟩ := h
    obtain ⟨w, h1, h2⟩ := RVs.get (i := i) (d := d) e3 (by simpa using q)
    exact ⟨w, by rw [e1]; simpa using h1, h2⟩
theorem RVs.append : ∀ {ds es : List D} {vs us : List V}, RVs K ρ H ds vs → RVs K ρ H es us → RVs K ρ H (ds ++ es) (vs ++ us)
  | [], _, _, _, h, h2 => by unfold RVs at h; rw [h]; exact h2
  | d :: ds, es, _, us, h, h2 => by
    unfold RVs at h
    obtain ⟨v, r, e1, e2, e3⟩ := h
    show RVs K ρ H (d :: (ds ++ es)) _
    unfold RVs
    exact ⟨v, r ++ us, by rw [e1]; rfl, e2, RVs.append e3 h2⟩
theorem RVs.take : ∀ {ds : List D} {vs : List V} (n : Nat), RVs K ρ H ds vs → RVs K ρ H (ds.take n) (vs.take n)
  | _, _, 0, _ => by rw [List.take_zero, List.take_zero]; unfold RVs; rfl
  | [], _, _ + 1, h => by unfold RVs at h; rw [h]; simp [RVs]
  | d :: ds, _, n + 1, h => by
    unfold RVs at h
    obtain ⟨v, r, e1, e2, e3⟩ := h
    subst e1
    show RVs K ρ H (d :: ds.take n) (v :: r.take n)
    unfold RVs
    exact ⟨v, _, rfl, e2, RVs.take n e3⟩
theorem RVs.drop : ∀ {ds : List D} {vs : List V} (n : Nat), RVs K ρ H ds vs → RVs K ρ H (ds.drop n) (vs.drop n)
  | _, _, 0, h => h
  | [], _, _ + 1, h => by unfold RVs at h; rw [h]; simp [RVs]
  | d :: ds, _, n + 1, h => by
    unfold RVs at h
    obtain ⟨v, r, e1, e2, e3⟩ := h
    subst e1
    exact RVs.drop n e3
theorem RVs.set {d : D} {v : V} (hd : RV K ρ H d v) : ∀ {ds : List D} {vs : List V} (n : Nat), RVs K ρ H ds vs → RVs K ρ H (ds.set n d) (vs.set n v)
  | [], _, _, h => by unfold RVs at h; rw [h]; simp [RVs]
  | x :: ds, _, 0, h => by
    unfold RVs at h
    obtain ⟨w, r, e1, e2, e3⟩ := h
    subst e1
    show RVs K ρ H (d :: ds) (v :: r)
    unfold RVs
    exact ⟨v, _, rfl, hd, e3⟩
  | x :: ds, _, n + 1, h => by
    unfold RVs at h
    obtain ⟨w, r, e1, e2, e3⟩ := h
    subst e1
    show RVs K ρ H (x :: ds.set n d) (w :: r.set n v)
    unfold RVs
    exact ⟨w, _, rfl, e2, RVs.set hd n e3⟩
theorem RVs.reverse : ∀ {ds : List D} {vs : List V}, RVs K ρ H ds vs → RVs K ρ H ds.reverse vs.reverse
  | [], _, h => by unfold RVs at h; rw [h]; simp [RVs]
  | x :: ds, _, h => by
    unfold RVs at h
    obtain ⟨w, r, e1, e2, e3⟩ := h
    subst e1
    rw [List.reverse_cons, List.reverse_cons]
    refine RVs.append (RVs.reverse e3) ?_
    unfold RVs
    exact ⟨w, [], rfl, e2, by unfold RVs; rfl⟩
theorem RVs.one {d : D} {v : V} (h : RV K ρ H d v) : RVs K ρ H [d] [v] := by
  unfold RVs
  exact ⟨v, [], rfl, h, by unfold RVs; rfl⟩
theorem RVs.nil_ : RVs K ρ H [] [] := by unfold RVs; rfl
theorem RVs.cons_ {d : D} {v : V} {ds : List D} {vs : List V} (h : RV K ρ H d v) (h2 : RVs K ρ H ds vs) : RVs K ρ H (d :: ds) (v :: vs) := by
  unfold RVs
  exact ⟨v, vs, rfl, h, h2⟩

theorem nodup_ix_ : ∀ {l : List Addr} {i j : Nat} {a : Addr}, l.Nodup → l[i]? = some a → l[j]? = some a → i = j := by
  intro l i j a nd h1 h2
  obtain ⟨b1, e1⟩ := List.getElem?_eq_some_iff.mp h1
  obtain ⟨b2, e2⟩ := List.getElem?_eq_some_iff.mp h2
  have pw := List.pairwise_iff_getElem.mp nd
  rcases Nat.lt_trichotomy i j with h | h | h
  · exact absurd (e1.trans e2.symm) (pw i j b1 b2 h)
  · exact h
  · exact absurd (e2.trans e1.symm) (pw j i b2 b1 h)
/-! ### steps of the heap -/
theorem sqt_new {a p : Addr} {xs : List V} {o : HO} (hp : H p = none) (h : SqT K H a xs) : SqT K (upd H p o) a xs := by
  rcases h with (h | ⟨u, h⟩) | h
  · exact .inl (.inl (by rw [upd_ne (ne_of_none h hp)]; exact h))
  · exact .inl (.inr ⟨u, by rw [upd_ne (ne_of_none h hp)]; exact h⟩)
  · exact .inr h
theorem sqt_lst {a p : Addr} {xs ys : List V} {o : HO} (hp : H p = some (.lst ys)) (h : SqT K H a xs) : SqT K (upd H p o) a xs := by
  rcases h with (h | ⟨u, h⟩) | h
  · exact .inl (.inl (by rw [upd_ne (ne_of h hp (fun z => by cases z))]; exact h))
  · exact .inl (.inr ⟨u, by rw [upd_ne (ne_of h hp (fun z => by cases z))]; exact h⟩)
  · exact .inr h
theorem SqF.upd_new {a p : Addr} {xs : List V} {o : HO} (hp : H p = none) (h : SqF K H a xs) : SqF K (upd H p o) a xs := by
  rcases h with ⟨u, h⟩ | h
  · exact .inl ⟨u, by rw [upd_ne (ne_of_none h hp)]; exact h⟩
  · exact .inr h
theorem SqF.upd_lst {a p : Addr} {xs ys : List V} {o : HO} (hp : H p = some (.lst ys)) (h : SqF K H a xs) : SqF K (upd H p o) a xs := by
  rcases h with ⟨u, h⟩ | h
  · exact .inl ⟨u, by rw [upd_ne (ne_of h hp (fun z => by cases z))]; exact h⟩
  · exact .inr h
/-- a new object that the store does not know -/
theorem Ext.laid {p : Addr} {o : HO} (hp : H p = none) : Ext K ρ H ρ (upd H p o) where
  pre := fun _ _ h => h
  tup := fun a xs h => sqt_new hp h
  fzl := fun a xs h => h.upd_new hp
  oth := fun a u h _ => by rw [upd_ne (ne_of_none h hp)]; exact h
  new := fun a h => .inl h
  bk := fun a h => by
    by_cases e : a = p
    · rw [e]; exact hp
    · rw [upd_ne e] at h; exact h
theorem ROb.mono {a : Addr} {o : Ob} (e : Ext K ρ H ρ' H') (hl : ∀ u, H a = some u → H' a = some u) (h : ROb K ρ H a o) : ROb K ρ' H' a o := by
  cases o with
  | lst xs => obtain ⟨vs, h1, h2⟩ := h; exact ⟨vs, hl _ h1, RVs.mono e xs vs h2⟩
  | dct _ => exact h.elim
theorem ROb.there {a : Addr} {o : Ob} (h : ROb K ρ H a o) : H a ≠ none := by
  cases o with
  | lst xs => obtain ⟨vs, h1, h2⟩ := h; rw [h1]; exact fun z => by cases z
  | dct _ => exact h.elim
theorem RS.there {p : Addr} (h : RS K ρ H s) (m : p ∈ ρ) : H p ≠ none := by
  obtain ⟨i, hi⟩ := List.mem_iff_getElem?.mp m
  have hlt : i < s.length := by
    rw [← h.len]
    exact (List.getElem?_eq_some_iff.mp hi).1
  exact (h.ob i _ p (List.getElem?_eq_getElem hlt) hi).there
theorem RS.fresh {p : Addr} (h : RS K ρ H s) (hp : H p = none) : p ∉ ρ := fun m => h.there m hp
theorem RS.laid {p : Addr} {o : HO} (hp : H p = none) (h : RS K ρ H s) : RS K ρ (upd H p o) s :=
  ⟨h.len, h.nd, fun i ob a h1 h2 => (h.ob i ob a h1 h2).mono (Ext.laid hp) fun u q => by rw [upd_ne (ne_of_none q hp)]; exact q⟩
/-- .. that the store takes up -/
theorem Ext.take_up {p : Addr} {o : HO} (hp : H p = none) : Ext K ρ H (ρ ++ [p]) (upd H p o) where
  pre := fun i a h => by rw [List.getElem?_append_left (List.getElem?_eq_some_iff.mp h).1]; exact h
  tup := fun a xs h => sqt_new hp h
  fzl := fun a xs h => h.upd_new hp
  oth := fun a u h _ => by rw [upd_ne (ne_of_none h hp)]; exact h
  new := fun a h => by
    rcases List.mem_append.mp h with h | h
    · exact .inl h
    · rw [List.mem_singleton.mp h]; exact .inr hp
  bk := fun a h => by
    by_cases e : a = p
    · rw [e]; exact hp
    · rw [upd_ne e] at h; exact h
/-- the list at p, which the store does not know, is taken up -/
theorem RS.up {p : Addr} {xs : List D} {vs : List V} (h : RS K ρ H s) (hp : H p = some (.lst vs)) (hn : p ∉ ρ) (r : RVs K ρ H xs vs) : RS K (ρ ++ [p]) H (s ++ [.lst xs]) := by
  have pre : ∀ (i : Nat) (a : Addr), ρ[i]? = some a → (ρ ++ [p])[i]? = some a := fun i a q => by rw [List.getElem?_append_left (List.getElem?_eq_some_iff.mp q).1]; exact q
  have mono : ∀ (ds : List D) (us : List V), RVs K ρ H ds us → RVs K (ρ ++ [p]) H ds us := fun ds us q =>
    q.widen pre
  refine ⟨by rw [List.length_append, List.length_append, h.len]; rfl, ?_, fun i o a h1 h2 => ?_⟩
  · rw [List.nodup_append]
    refine ⟨h.nd, by simp, fun a ha b hb => ?_⟩
    rw [List.mem_singleton.mp hb]
    rintro rfl
    exact hn ha
  · by_cases hi : i < s.length
    · rw [List.getElem?_append_left hi] at h1
      rw [List.getElem?_append_left (by rw [h.len]; exact hi)] at h2
      have q := h.ob i o a h1 h2
      cases o with
      | lst ys => obtain ⟨us, q1, q2⟩ := q; exact ⟨us, q1, mono _ _ q2⟩
      | dct _ => exact q.elim
    · have hi2 : i = s.length := by
        have := (List.getElem?_eq_some_iff.mp h1).1
        rw [List.length_append] at this
        simp at this
        omega
      subst hi2
      rw [List.getElem?_append_right (Nat.le_refl _), Nat.sub_self] at h1
      rw [List.getElem?_append_right (by rw [h.len]; exact Nat.le_refl _), h.len, Nat.sub_self] at h2
      cases h1
      cases h2
      exact ⟨vs, hp, mono _ _ r⟩
/-- a fresh list is taken up -/
theorem Ext.up {p : Addr} {ρ0 : List Addr} {H0 : Hp} (e : Ext K ρ0 H0 ρ H) (h0 : H0 p = none) : Ext K ρ0 H0 (ρ ++ [p]) H where
  pre := fun i a h => by
    have q := e.pre i a h
    rw [List.getElem?_append_left (List.getElem?_eq_some_iff.mp q).1]; exact q
  tup := e.tup
  fzl := e.fzl
  oth := e.oth
  new := fun a h => by
    rcases List.mem_append.mp h with h | h
    · exact e.new a h
    · rw [List.mem_singleton.mp h]; exact .inr h0
  bk := e.bk
/-- the list at p, which the store knows, is changed -/
theorem Ext.write {p : Addr} {vs ws : List V} (hp : H p = some (.lst vs)) (m : p ∈ ρ) : Ext K ρ H ρ (upd H p (.lst ws)) where
  pre := fun _ _ h => h
  tup := fun a xs h => sqt_lst hp h
  fzl := fun a xs h => h.upd_lst hp
  oth := fun a u h n => by rw [upd_ne (fun z => n (by rw [z]; exact m))]; exact h
  new := fun a h => .inl h
  bk := fun a h => by
    by_cases e : a = p
    · rw [e, upd_same] at h; cases h
    · rw [upd_ne e] at h; exact h
theorem RS.write {i : Nat} {p : Addr} {vs ws : List V} {xs : List D} (h : RS K ρ H s) (hi : ρ[i]? = some p) (hp : H p = some (.lst vs)) (r : RVs K ρ H xs ws) : RS K ρ (upd H p (.lst ws)) (s.set i (.lst xs)) := by
  have m : p ∈ ρ := List.mem_of_getElem? hi
  have e := Ext.write (K := K) (ws := ws) hp m
  refine ⟨by rw [List.length_set]; exact h.len, h.nd, fun j o a h1 h2 => ?_⟩
  by_cases hj : i = j
  · subst hj
    rw [hi] at h2
    cases h2
    have hlt : i < s.length := by rw [← h.len]; exact (List.getElem?_eq_some_iff.mp hi).1
    rw [List.getElem?_set_self hlt] at h1
    cases h1
    exact ⟨ws, upd_same, RVs.mono e _ _ r⟩
  · rw [List.getElem?_set_ne hj] at h1
    refine (h.ob j o a h1 h2).mono e fun u q => ?_
    rw [upd_ne ?_]
    · exact q
    · rintro rfl
      exact hj (nodup_ix_ h.nd hi h2)
theorem RS.lstAt {i : Nat} {xs : List D} (h : RS K ρ H s) (hs : s[i]? = some (.lst xs)) : ∃ p vs, ρ[i]? = some p ∧ H p = some (.lst vs) ∧ RVs K ρ H xs vs := by
  have hlt : i < ρ.length := by rw [h.len]; exact (List.getElem?_eq_some_iff.mp hs).1
  obtain ⟨vs, q1, q2⟩ := h.ob i _ _ hs (List.getElem?_eq_getElem hlt)
  exact ⟨_, vs, List.getElem?_eq_getElem hlt, q1, q2⟩
/-! ### a fresh list that the store does not know grows -/
section
variable {p : Addr} {vs ws : List V}
theorem RV.poke (hp : H p = some (.lst vs)) {d : D} {v : V} (h : RV K ρ H d v) : RV K ρ (upd H p (.lst ws)) d v := RV.mono0 (fun _ _ q => q) (fun a xs q => sqt_lst hp q) (fun a xs q => q.upd_lst hp) d v h
theorem RVs.poke (hp : H p = some (.lst vs)) {d : List D} {v : List V} (h : RVs K ρ H d v) : RVs K ρ (upd H p (.lst ws)) d v := RVs.mono0 (fun _ _ q => q) (fun a xs q => sqt_lst hp q) (fun a xs q => q.upd_lst hp) d v h
theorem RL.poke (hp : H p = some (.lst vs)) (h : RL K ρ H σ l) : RL K ρ (upd H p (.lst ws)) σ l := ⟨h.len, fun i d q => by
  obtain ⟨v, h1, h2⟩ := h.at_ i d q
  exact ⟨v, h1, h2.poke hp⟩⟩
theorem RS.poke (hp : H p = some (.lst vs)) (hn : p ∉ ρ) (h : RS K ρ H s) : RS K ρ (upd H p (.lst ws)) s := by
  refine ⟨h.len, h.nd, fun i o a h1 h2 => ?_⟩
  have q := h.ob i o a h1 h2
  have ne : a ≠ p := fun z => hn (by rw [← z]; exact List.mem_of_getElem? h2)
  cases o with
  | lst xs =>
    obtain ⟨us, q1, q2⟩ := q
    exact ⟨us, by rw [upd_ne ne]; exact q1, q2.poke hp⟩
  | dct _ => exact q.elim
theorem Ext.poke {ρ0 : List Addr} {H0 : Hp} (e : Ext K ρ0 H0 ρ H) (h0 : H0 p = none) (hp : H p = some (.lst vs)) : Ext K ρ0 H0 ρ (upd H p (.lst ws)) where
  pre := e.pre
  tup := fun a xs h => sqt_lst hp (e.tup a xs h)
  fzl := fun a xs h => (e.fzl a xs h).upd_lst hp
  oth := fun a o h n => by rw [upd_ne (ne_of_none h h0)]; exact e.oth a o h n
  new := e.new
  bk := fun a h => by
    by_cases z : a = p
    · rw [z]; exact h0
    · rw [upd_ne z] at h; exact e.bk a h
end
end
end Nv

set_option Elab.async false
set_option linter.all false
set_option maxRecDepth 100000
set_option autoImplicit false
/-! NvOp: the operators keep what the interpreter says of them. -/
namespace Nv
open PySem PySem.Spec PyProof.Rows L2

/-- what is wanted of an exception -/
abbrev Wx := List Addr → Hp → D → Prop
/-- what is wanted behind a piece of the interpreter's run -/
def Post (K : PySem.W.Frag) (W : Wx) {α β : Type} (R : Hp → List Addr → Hp → α → β → Prop) (ρ : List Addr) (H : Hp) (Q : β → Hp → Prop) : Res α → Prop
  | .ok a s => ∀ ρ' H' v, Ext K ρ H ρ' H' → RS K ρ' H' s → R H ρ' H' a v → Q v H'
  | .ex x s => ∀ ρ' H', Ext K ρ H ρ' H' → RS K ρ' H' s → W ρ' H' x
  | .no => False
/-- a relation that holds from further back -/
def Bk (K : PySem.W.Frag) {α β : Type} (R : Hp → List Addr → Hp → α → β → Prop) : Prop :=
  ∀ (ρ : List Addr) (H : Hp) (ρ1 : List Addr) (H1 : Hp) (ρ' : List Addr) (H' : Hp) (a : α) (v : β), Ext K ρ H ρ1 H1 → R H1 ρ' H' a v → R H ρ' H' a v
section
variable {K : PySem.W.Frag} {W : Wx} {α β γ δ : Type} {R : Hp → List Addr → Hp → α → β → Prop} {R2 : Hp → List Addr → Hp → γ → δ → Prop} {ρ ρ1 : List Addr} {H H1 : Hp}
theorem Post.mono {Q : β → Hp → Prop} (b : Bk K R) (e : Ext K ρ H ρ1 H1) : ∀ {r : Res α}, Post K W R ρ H Q r → Post K W R ρ1 H1 Q r
  | .ok a s, h => fun ρ' H' v e' rs r => h ρ' H' v (e.trans e') rs (b _ _ _ _ _ _ _ _ e r)
  | .ex x s, h => fun ρ' H' e' rs => h ρ' H' (e.trans e') rs
  | .no, h => h
theorem Post.bind {Q : δ → Hp → Prop} {Q1 : β → Hp → Prop} {r : Res α} {f : α → Sto → Res γ} (b : Bk K R2) (h : Post K W R2 ρ H Q (r.bind f))
    (k : ∀ a s1 ρ1 H1 v, Ext K ρ H ρ1 H1 → RS K ρ1 H1 s1 → R H ρ1 H1 a v → Post K W R2 ρ1 H1 Q (f a s1) → Q1 v H1) : Post K W R ρ H Q1 r := by
  cases r with
  | ok a s => exact fun ρ' H' v e rs rr => k a s ρ' H' v e rs rr (Post.mono b e h)
  | ex x s => exact h
  | no => exact h
/-- .. the end told from further back -/
theorem Post.bindB {ρ0 : List Addr} {H0 : Hp} {Q : δ → Hp → Prop} {Q1 : β → Hp → Prop} {r : Res α} {f : α → Sto → Res γ} (e0 : Ext K ρ0 H0 ρ H) (h : Post K W R2 ρ0 H0 Q (r.bind f))
    (k : ∀ a s1 ρ1 H1 v, Ext K ρ H ρ1 H1 → RS K ρ1 H1 s1 → R H ρ1 H1 a v → Post K W R2 ρ0 H0 Q (f a s1) → Q1 v H1) : Post K W R ρ H Q1 r := by
  cases r with
  | ok a s => exact fun ρ' H' v e rs rr => k a s ρ' H' v e rs rr h
  | ex x s => exact fun ρ' H' e rs => h ρ' H' (e0.trans e) rs
  | no => exact h
theorem Post.imp {Q Q1 : β → Hp → Prop} (hQ : ∀ v H', Q v H' → Q1 v H') : ∀ {r : Res α}, Post K W R ρ H Q r → Post K W R ρ H Q1 r
  | .ok a s, h => fun ρ' H' v e' rs r => hQ _ _ (h ρ' H' v e' rs r)
  | .ex x s, h => h
  | .no, h => h
end
abbrev rRR (K : PySem.W.Frag) : Hp → List Addr → Hp → RD → V → Prop := RR K
abbrev rRV (K : PySem.W.Frag) : Hp → List Addr → Hp → D → V → Prop := fun _ ρ H d v => RV K ρ H d v
abbrev rRVs (K : PySem.W.Frag) : Hp → List Addr → Hp → List D → List V → Prop := fun _ ρ H d v => RVs K ρ H d v
abbrev rB : Hp → List Addr → Hp → Bool → Bool → Prop := fun _ _ _ a b => a = b
section
variable {K : PySem.W.Frag}
theorem bkRR : Bk K (rRR K) := fun ρ H ρ1 H1 ρ' H' a v e h => by
  cases a with
  | d x => exact h
  | l xs =>
    obtain ⟨a, vs, e1, e2, e3, e4, e5⟩ := h
    exact ⟨a, vs, e1, e2, e3, e4, e.bk a e5⟩
theorem bkRV : Bk K (rRV K) := fun _ _ _ _ _ _ _ _ _ h => h
theorem bkRVs : Bk K (rRVs K) := fun _ _ _ _ _ _ _ _ _ h => h
theorem bkB : Bk K rB := fun _ _ _ _ _ _ _ _ _ h => h
end

/-! ### reading -/
section
variable {K : PySem.W.Frag} {ρ : List Addr} {H H0 : Hp} {s : Sto}
theorem lstAt_ok {i : Nat} {xs : List D} (rs : RS K ρ H s) (h : lstAt s i = some xs) : ∃ p vs, ρ[i]? = some p ∧ H p = some (.lst vs) ∧ RVs K ρ H xs vs := by
  unfold lstAt at h
  split at h
  · rename_i ys e
    cases h
    exact rs.lstAt e
  · cases h
theorem asL_ok {a : RD} {x : V} {xs : List D} (rs : RS K ρ H s) (r : RR K H0 ρ H a x) (h : asL s a = some xs) : ∃ p vs, x = .ref p ∧ SqL K H p vs ∧ RVs K ρ H xs vs := by
  unfold asL at h
  split at h
  · cases h
    obtain ⟨a, vs, e1, e2, e3, _⟩ := r
    exact ⟨a, vs, e1, SqL.of e2, e3⟩
  · cases h
    unfold RR RV at r
    obtain ⟨a, vs, e1, e2, e3⟩ := r
    exact ⟨a, vs, e1, e2.sql, e3⟩
  · unfold RR RV at r
    obtain ⟨a, e1, e2⟩ := r
    obtain ⟨p, vs, h1, h2, h3⟩ := lstAt_ok rs h
    rw [e2] at h1
    cases h1
    exact ⟨a, vs, e1, SqL.of h2, h3⟩
  · cases h
theorem asQ_ok {a : RD} {x : V} {xs : List D} (rs : RS K ρ H s) (r : RR K H0 ρ H a x) (h : asQ s a = some xs) : ∃ p vs, x = .ref p ∧ (SqL K H p vs ∨ SqT K H p vs) ∧ RVs K ρ H xs vs := by
  unfold asQ at h
  split at h
  · obtain ⟨p, vs, h1, h2, h3⟩ := asL_ok (s := s) rs r (show asL s (.l _) = some xs from h)
    exact ⟨p, vs, h1, .inl h2, h3⟩
  · obtain ⟨p, vs, h1, h2, h3⟩ := asL_ok (s := s) rs r (show asL s (.d (.lf _)) = some xs from h)
    exact ⟨p, vs, h1, .inl h2, h3⟩
  · obtain ⟨p, vs, h1, h2, h3⟩ := asL_ok (s := s) rs r (show asL s (.d (.obj _)) = some xs from h)
    exact ⟨p, vs, h1, .inl h2, h3⟩
  · cases h
    unfold RR RV at r
    obtain ⟨a, vs, e1, e2, e3⟩ := r
    exact ⟨a, vs, e1, .inr e2, e3⟩
  · cases h
mutual
theorem pyW_ok {g : Nat → Option PyData} (hg : ∀ (i : Nat) (a : Addr) (p : PyData), g i = some p → ρ[i]? = some a → Dp K H (.ref a) p) : ∀ (d : D) (v : V) (p : PyData), RV K ρ H d v → pyW g d = some p → Dp K H v p
  | .non, v, p, h, e => by
    unfold RV at h; unfold pyW at e; cases e; subst h; exact .non
  | .bl b, v, p, h, e => by
    unfold RV at h; unfold pyW at e; cases e; subst h; exact .bl b
  | .int b, v, p, h, e => by
    unfold RV at h; unfold pyW at e; cases e; subst h; exact .int b
  | .str b, v, p, h, e => by
    unfold RV at h; unfold pyW at e; cases e; subst h; exact .str b
  | .tup ds, v, p, h, e => by
    unfold RV at h
    unfold pyW at e
    obtain ⟨a, vs, rfl, h2, h3⟩ := h
    cases q : pyWs g ds with
    | none => rw [q] at e; cases e
    | some ps =>
      rw [q] at e
      cases e
      exact .tup h2 (pyWs_ok hg ds vs ps h3 q)
  | .lf ds, v, p, h, e => by
    unfold RV at h
    unfold pyW at e
    obtain ⟨a, vs, rfl, h2, h3⟩ := h
    cases q : pyWs g ds with
    | none => rw [q] at e; cases e
    | some ps =>
      rw [q] at e
      cases e
      exact .lst h2.sql (pyWs_ok hg ds vs ps h3 q)
  | .obj i, v, p, h, e => by
    unfold RV at h
    unfold pyW at e
    obtain ⟨a, rfl, h2⟩ := h
    exact hg i a p e h2
theorem pyWs_ok {g : Nat → Option PyData} (hg : ∀ (i : Nat) (a : Addr) (p : PyData), g i = some p → ρ[i]? = some a → Dp K H (.ref a) p) : ∀ (ds : List D) (vs : List V) (ps : List PyData), RVs K ρ H ds vs → pyWs g ds = some ps → DpAll K H vs ps
  | [], vs, ps, h, e => by
    unfold RVs at h
    unfold pyWs at e
    subst h
    cases e
    exact .nil
  | d :: ds, vs, ps, h, e => by
    unfold RVs at h
    unfold pyWs at e
    obtain ⟨v, r, rfl, h2, h3⟩ := h
    cases q : pyW g d with
    | none => rw [q] at e; cases e
    | some p =>
      rw [q] at e
      cases q2 : pyWs g ds with
      | none => rw [q2] at e; cases e
      | some pr =>
        rw [q2] at e
        cases e
        exact .cons (pyW_ok hg d v p h2 q) (pyWs_ok hg ds r pr h3 q2)
end
theorem mapM_ok {f : D → Option PyData} (hf : ∀ d v p, RV K ρ H d v → f d = some p → Dp K H v p) : ∀ {ds : List D} {vs : List V} {ps : List PyData}, RVs K ρ H ds vs → ds.mapM f = some ps → DpAll K H vs ps
  | [], vs, ps, h, e => by
    unfold RVs at h
    subst h
    rw [List.mapM_nil] at e
    cases e
    exact .nil
  | d :: ds, vs, ps, h, e => by
    unfold RVs at h
    obtain ⟨v, r, rfl, h2, h3⟩ := h
    rw [List.mapM_cons] at e
    cases q : f d with
    | none => rw [q] at e; cases e
    | some p =>
      rw [q] at e
      cases q2 : ds.mapM f with
      | none => rw [q2] at e; cases e
      | some pr =>
        rw [q2] at e
        cases e
        exact .cons (hf d v p h2 q) (mapM_ok hf h3 q2)
theorem pyN_ok (rs : RS K ρ H s) : ∀ (n : Nat) (d : D) (v : V) (p : PyData), RV K ρ H d v → pyN s n d = some p → Dp K H v p
  | 0, d, v, p, h, e => pyW_ok (fun i a p q => by cases q) d v p h e
  | n + 1, d, v, p, h, e => pyW_ok (fun i a p q ha => by
      split at q
      · rename_i xs ex
        cases q2 : xs.mapM (pyN s n) with
        | none => rw [q2] at q; cases q
        | some ps =>
          rw [q2] at q
          cases q
          obtain ⟨p2, vs, h1, h2, h3⟩ := rs.lstAt ex
          rw [ha] at h1
          cases h1
          exact .lst (SqL.of h2) (mapM_ok (pyN_ok rs n) h3 q2)
      · cases q) d v p h e
theorem pyR_ok {a : RD} {x : V} {p : PyData} (rs : RS K ρ H s) (r : RR K H0 ρ H a x) (h : pyR s a = some p) : Dp K H x p := by
  cases a with
  | d y => exact pyN_ok rs 3 y x p r h
  | l xs =>
    obtain ⟨a, vs, rfl, h2, h3, _⟩ := r
    unfold pyR at h
    simp only at h
    cases q2 : xs.mapM (pyN s 2) with
    | none => rw [q2] at h; cases h
    | some ps =>
      rw [q2] at h
      cases h
      exact .lst (SqL.of h2) (mapM_ok (pyN_ok rs 2) h3 q2)
end

/-! ### operators -/
/-- an operation of the interpreter as a rule -/
def rOp (K : PySem.W.Frag) (W : Wx) (op : Sto → RD → RD → Option RD) : R2 := fun x y H Q => ∃ H0 H0' ρ s a b, RS K ρ H s ∧ RR K H0 ρ H a x ∧ RR K H0' ρ H b y ∧ Post K W (rRR K) ρ H Q (ofO (op s a b) s)
/-- a comparison of the interpreter as a rule -/
def rCp (K : PySem.W.Frag) (op : Sto → RD → RD → Option Bool) : R2 := fun x y H Q => ∃ H0 H0' ρ s a b t, RS K ρ H s ∧ RR K H0 ρ H a x ∧ RR K H0' ρ H b y ∧ op s a b = some t ∧ Q (.bl t) H
section
variable {X : Cx} {W : Wx}
theorem post_int {K : PySem.W.Frag} {ρ : List Addr} {H : Hp} {s : Sto} {Q : VK} {k : Int} (rs : RS K ρ H s) (h : Post K W (rRR K) ρ H Q (.ok (.d (.int k)) s)) : Q (.int k) H :=
  h ρ H (.int k) .refl rs (by show RV _ _ _ _ _; unfold RV; rfl)
theorem post_laid {K : PySem.W.Frag} {ρ : List Addr} {H : Hp} {s : Sto} {Q : VK} {xs : List D} {vs : List V} (rs : RS K ρ H s) (r : RVs K ρ H xs vs) (h : Post K W (rRR K) ρ H Q (.ok (.l xs) s)) {p : Addr} (hp : H p = none) : Q (.ref p) (upd H p (.lst vs)) :=
  h ρ _ (.ref p) (Ext.laid hp) (rs.laid hp) ⟨p, vs, rfl, upd_same, RVs.mono (Ext.laid hp) xs vs r, rs.fresh hp, hp⟩
theorem post_tup {K : PySem.W.Frag} {ρ : List Addr} {H : Hp} {s : Sto} {Q : VK} {xs : List D} {vs : List V} (rs : RS K ρ H s) (r : RVs K ρ H xs vs) (h : Post K W (rRR K) ρ H Q (.ok (.d (.tup xs)) s)) {p : Addr} (hp : H p = none) : Q (.ref p) (upd H p (.tup vs)) :=
  h ρ _ (.ref p) (Ext.laid hp) (rs.laid hp) (by
    show RV _ _ _ _ _
    unfold RV
    exact ⟨p, vs, rfl, SqT.of upd_same, RVs.mono (Ext.laid hp) xs vs r⟩)
theorem post_val {K : PySem.W.Frag} {ρ : List Addr} {H : Hp} {s : Sto} {Q : VK} {d : D} {v : V} (rs : RS K ρ H s) (h : Post K W (rRR K) ρ H Q (.ok (.d d) s)) (r : RV K ρ H d v) : Q v H := h ρ H v .refl rs r
theorem rv_int {K : PySem.W.Frag} {ρ : List Addr} {H : Hp} {i : Int} {v : V} : RV K ρ H (.int i) v ↔ v = .int i := by unfold RV; exact Iff.rfl
theorem rv_str {K : PySem.W.Frag} {ρ : List Addr} {H : Hp} {i : Str} {v : V} : RV K ρ H (.str i) v ↔ v = .str i := by unfold RV; exact Iff.rfl
theorem rv_bl {K : PySem.W.Frag} {ρ : List Addr} {H : Hp} {i : Bool} {v : V} : RV K ρ H (.bl i) v ↔ v = .bl i := by unfold RV; exact Iff.rfl
theorem rv_non {K : PySem.W.Frag} {ρ : List Addr} {H : Hp} {v : V} : RV K ρ H .non v ↔ v = .non := by unfold RV; exact Iff.rfl
theorem rv_tup {K : PySem.W.Frag} {ρ : List Addr} {H : Hp} {ds : List D} {v : V} : RV K ρ H (.tup ds) v ↔ ∃ a vs, v = .ref a ∧ SqT K H a vs ∧ RVs K ρ H ds vs := by
  constructor
  · intro h; unfold RV at h; exact h
  · intro h; unfold RV; exact h
theorem rr_int {K : PySem.W.Frag} {ρ : List Addr} {H H0 : Hp} {i : Int} {v : V} (h : RR K H0 ρ H (.d (.int i)) v) : v = .int i := by unfold RR RV at h; exact h
theorem rr_str {K : PySem.W.Frag} {ρ : List Addr} {H H0 : Hp} {i : Str} {v : V} (h : RR K H0 ρ H (.d (.str i)) v) : v = .str i := by unfold RR RV at h; exact h
theorem rr_bl {K : PySem.W.Frag} {ρ : List Addr} {H H0 : Hp} {i : Bool} {v : V} (h : RR K H0 ρ H (.d (.bl i)) v) : v = .bl i := by unfold RR RV at h; exact h
theorem rr_non {K : PySem.W.Frag} {ρ : List Addr} {H H0 : Hp} {v : V} (h : RR K H0 ρ H (.d .non) v) : v = .non := by unfold RR RV at h; exact h
theorem rr_tup {K : PySem.W.Frag} {ρ : List Addr} {H H0 : Hp} {ds : List D} {v : V} (h : RR K H0 ρ H (.d (.tup ds)) v) : ∃ a vs, v = .ref a ∧ SqT K H a vs ∧ RVs K ρ H ds vs := by unfold RR RV at h; exact h
theorem asM_ok {K : PySem.W.Frag} {ρ : List Addr} {H H0 : Hp} {s : Sto} {a : RD} {x : V} {xs : List D} (rs : RS K ρ H s) (r : RR K H0 ρ H a x) (h : asM s a = some xs) : ∃ p vs, x = .ref p ∧ H p = some (.lst vs) ∧ RVs K ρ H xs vs := by
  unfold asM at h
  split at h
  · cases h
    obtain ⟨a, vs, e1, e2, e3, _⟩ := r
    exact ⟨a, vs, e1, e2, e3⟩
  · unfold RR RV at r
    obtain ⟨a, e1, e2⟩ := r
    obtain ⟨p, vs, h1, h2, h3⟩ := lstAt_ok rs h
    rw [e2] at h1
    cases h1
    exact ⟨a, vs, e1, h2, h3⟩
  · cases h
theorem op_ints (o : Bop) {pins : List (Addr × Obj)} {s : Shared} {σ : L2.St} {H : Hp} {i j : Int} {v u : Value} {Q : VK} (I : Inv X pins σ H s) (rx : RelV (.int i) v) (ry : RelV (.int j) u)
    {k : Int} (hk : binI o i j = some k) (q : Q (.int k) H) : wpAny (model X.prog X.w) X.A (binaryOp o.op v u) (EP X pins σ Q) X.xe s := by
  cases o with
  | add => cases hk; exact op_add pins s σ H _ _ v u Q I rx ry ⟨i, j, rfl, rfl, q⟩
  | sub => cases hk; exact op_sub pins s σ H _ _ v u Q I rx ry ⟨i, j, rfl, rfl, q⟩
  | mul =>
    unfold binI at hk
    simp only at hk
    split at hk
    · rename_i c; cases hk; exact op_mul pins s σ H _ _ v u Q I rx ry ⟨i, j, rfl, rfl, c, q⟩
    · cases hk
  | fdiv =>
    unfold binI at hk
    simp only at hk
    split at hk
    · rename_i c; cases hk; exact op_fdivN pins s σ H _ _ v u Q I rx ry ⟨i, j, rfl, rfl, c, q⟩
    · cases hk
  | mod =>
    unfold binI at hk
    simp only at hk
    split at hk
    · rename_i c; cases hk; exact op_modN pins s σ H _ _ v u Q I rx ry ⟨i, j, rfl, rfl, c, q⟩
    · cases hk
  | pow =>
    unfold binI at hk
    simp only at hk
    split at hk
    · rename_i c; cases hk; exact op_pow pins s σ H _ _ v u Q I rx ry ⟨i, j, rfl, rfl, c, q⟩
    · cases hk
theorem op_bin (o : Bop) : OpR X (binaryOp o.op) (rOp X.K W (binR o)) := by
  intro pins s σ H x y v u Q I rx ry h
  obtain ⟨H0, H0', ρ, st, a, b, rs, ra, rb, h⟩ := h
  unfold binR at h
  split at h
  · rename_i i j
    cases rr_int ra
    cases rr_int rb
    cases hk : binI o i j with
    | none => rw [hk] at h; exact h.elim
    | some k =>
      rw [hk] at h
      exact op_ints o I rx ry hk (post_val rs h (rv_int.mpr rfl))
  · rename_i i j
    cases rr_str ra
    cases rr_str rb
    split at h
    · rename_i c
      obtain ⟨rfl, hz⟩ := c
      exact op_add_str pins s σ H _ _ v u Q I rx ry ⟨i, j, rfl, rfl, hz, post_val rs h (rv_str.mpr rfl)⟩
    · exact h.elim
  · rename_i ds es
    obtain ⟨p, vs, rfl, h1, h2⟩ := rr_tup ra
    obtain ⟨q, us, rfl, h3, h4⟩ := rr_tup rb
    split at h
    · rename_i c
      subst c
      unfold catR at h
      split at h
      · rename_i hz
        have r12 := RVs.append h2 h4
        refine op_catA pins s σ H _ _ v u Q I rx ry ⟨p, q, vs, us, rfl, rfl, h1, h3, by rw [h2.length, h4.length]; exact hz, fun e => ?_, fun _ e => ?_, fun _ _ t ht => ?_⟩
        · refine post_val rs h (rv_tup.mpr ⟨q, us, rfl, h3, ?_⟩)
          subst e
          exact r12
        · refine post_val rs h (rv_tup.mpr ⟨p, vs, rfl, h1, ?_⟩)
          subst e
          rw [List.append_nil] at r12
          exact r12
        · exact post_tup rs r12 h ht
      · exact h.elim
    · exact h.elim
  · split at h
    · rename_i xs ys ex ey
      split at h
      · rename_i c
        subst c
        unfold catR at h
        split at h
        · rename_i hz
          obtain ⟨p, vs, rfl, h1, h2⟩ := asM_ok rs ra ex
          obtain ⟨q, us, rfl, h3, h4⟩ := asM_ok rs rb ey
          exact op_cat pins s σ H _ _ v u Q I rx ry ⟨p, q, vs, us, rfl, rfl, h1, h3, by rw [h2.length, h4.length]; exact hz, fun t ht => post_laid rs (RVs.append h2 h4) h ht⟩
        · exact h.elim
      · exact h.elim
    · exact h.elim
/-! comparisons -/
theorem eqR_ok {K : PySem.W.Frag} {ρ : List Addr} {H H0 H0' : Hp} {s : Sto} {a b : RD} {x y : V} {t : Bool} (rs : RS K ρ H s) (ra : RR K H0 ρ H a x) (rb : RR K H0' ρ H b y) (h : eqR s a b = some t) :
    ∃ d e, Dp K H x d ∧ Dp K H y e ∧ SeqAt.shaped d = true ∧ SeqAt.shaped e = true ∧ t = PyData.eqv d e := by
  unfold eqR at h
  split at h
  · rename_i p q ep eq
    split at h
    · rename_i c
      cases h
      exact ⟨p, q, pyR_ok rs ra ep, pyR_ok rs rb eq, c.1, c.2, rfl⟩
    · cases h
  · cases h
theorem inR_ok {K : PySem.W.Frag} {ρ : List Addr} {H H0 H0' : Hp} {s : Sto} {a b : RD} {x y : V} {t : Bool} (rs : RS K ρ H s) (ra : RR K H0 ρ H a x) (rb : RR K H0' ρ H b y) (h : inR s a b = some t) :
    (∃ i j, x = .str i ∧ y = .str j ∧ t = strIn i j) ∨ ∃ d qs p vs, Dp K H x d ∧ y = .ref p ∧ (SqL K H p vs ∨ SqT K H p vs) ∧ DpAll K H vs qs ∧ SeqAt.shaped d = true ∧ SeqAt.shaped (.list qs) = true ∧ t = qs.any fun z => PyData.eqv z d := by
  unfold inR at h
  split at h
  · rename_i i j
    cases h
    exact .inl ⟨i, j, rr_str ra, rr_str rb, rfl⟩
  · split at h
    · rename_i qs p eq ep
      split at h
      · rename_i c
        cases h
        cases e : asQ s b with
        | none => rw [e] at eq; cases eq
        | some ys =>
          rw [e] at eq
          obtain ⟨l, vs, h1, h2, h3⟩ := asQ_ok rs rb e
          exact .inr ⟨p, qs, l, vs, pyR_ok rs ra ep, h1, h2, mapM_ok (pyN_ok rs 2) h3 eq, c.1, c.2, rfl⟩
      · cases h
    · cases h
theorem in_tup {neg : Bool} {pins : List (Addr × Obj)} {s : Shared} {σ : L2.St} {H : Hp} {x : V} {v : Value} {d : PyData} {qs : List PyData} {p : Addr} {vs : List V} {Q : VK} (hu : X.A.units + 65 < cLine) (I : Inv X pins σ H s) (rx : RelV x v) (hd : Dp X.K H x d)
    (hq : SqT X.K H p vs) (hv : DpAll X.K H vs qs) (sd : SeqAt.shaped d = true) (sq : SeqAt.shaped (.list qs) = true) (q : Q (.bl (if neg then !(qs.any fun z => PyData.eqv z d) else qs.any fun z => PyData.eqv z d)) H) :
    wpAny (model X.prog X.w) X.A (compareOp (if neg then .NotIn else .In) v (.ref p)) (EP X pins σ Q) X.xe s := by
  obtain ⟨as, r1⟩ := Dp.reads I d x v hd rx
  obtain ⟨its, rv, ⟨o, ho, hc, n, hdd⟩, _⟩ := I.tuple hq
  obtain ⟨bs, r2⟩ := Dp.readsAll I qs _ its hv rv
  have hlay : PyData.canLayAll0 qs = true := by
    have := SeqAt.canLay_of_shaped sq
    simpa [PyData.canLay0] using this
  cases neg with
  | false => exact SeqAt.in_tuple_reads (Reads.tuple ho hc hdd r2) r1 hlay (SeqAt.canLay_of_shaped sd) (room_in_shaped sd hu) ⟨.bl _, H, I, rfl, q⟩
  | true => exact SeqAt.notIn_tuple_reads (Reads.tuple ho hc hdd r2) r1 hlay (SeqAt.canLay_of_shaped sd) (room_in_shaped sd hu) ⟨.bl _, H, I, rfl, q⟩
theorem isR_ok {K : PySem.W.Frag} {ρ : List Addr} {H H0 H0' : Hp} {a b : RD} {x y : V} {t : Bool} (ra : RR K H0 ρ H a x) (rb : RR K H0' ρ H b y) (h : isR a b = some t) : y = .non ∧ t = decide (x = .non) := by
  unfold isR at h
  split at h
  · rename_i d
    refine ⟨rr_non rb, ?_⟩
    have ra' : RV K ρ H d x := ra
    cases d with
    | non => cases h; cases rv_non.mp ra'; rfl
    | bl _ => cases h; cases rv_bl.mp ra'; rfl
    | int _ => cases h; cases rv_int.mp ra'; rfl
    | str _ => cases h; cases rv_str.mp ra'; rfl
    | tup _ => cases h; obtain ⟨_, _, rfl, _⟩ := rv_tup.mp ra'; rfl
    | lf _ => cases h; unfold RV at ra'; obtain ⟨_, _, rfl, _⟩ := ra'; rfl
    | obj _ => cases h; unfold RV at ra'; obtain ⟨_, rfl, _⟩ := ra'; rfl
  · cases h
    obtain ⟨_, _, rfl, _⟩ := ra
    exact ⟨rr_non rb, rfl⟩
  · cases h
theorem op_cmp (o : Cop) (hu : X.A.units + 65 < cLine) : OpR X (compareOp o.op) (rCp X.K (cmpR o)) := by
  intro pins s σ H x y v u Q I rx ry h
  obtain ⟨H0, H0', ρ, st, a, b, t, rs, ra, rb, h, q⟩ := h
  have hlt : ∀ {a b : RD} {t : Bool}, ltR a b = some t → (∃ i j, a = .d (.int i) ∧ b = .d (.int j) ∧ t = decide (i < j)) ∨ ∃ i j, a = .d (.str i) ∧ b = .d (.str j) ∧ t = decide (i.cps.toList < j.cps.toList) := by
    intro a b t h
    unfold ltR at h
    split at h
    · cases h; exact .inl ⟨_, _, rfl, rfl, rfl⟩
    · cases h; exact .inr ⟨_, _, rfl, rfl, rfl⟩
    · cases h
  have hle : ∀ {a b : RD} {t : Bool}, leR a b = some t → (∃ i j, a = .d (.int i) ∧ b = .d (.int j) ∧ t = decide (i ≤ j)) ∨ ∃ i j, a = .d (.str i) ∧ b = .d (.str j) ∧ t = !decide (j.cps.toList < i.cps.toList) := by
    intro a b t h
    unfold leR at h
    split at h
    · cases h; exact .inl ⟨_, _, rfl, rfl, rfl⟩
    · cases h; exact .inr ⟨_, _, rfl, rfl, rfl⟩
    · cases h
  have his : ∀ {t : Bool}, isR a b = some t → y = .non ∧ t = decide (x = .non) := fun h => isR_ok ra rb h
  cases o with
  | eq =>
    obtain ⟨d, e, h1, h2, h3, h4, rfl⟩ := eqR_ok rs ra rb (show eqR st a b = some t from h)
    exact op_eqD (by omega) pins s σ H x y v u Q I rx ry ⟨d, e, h1, h2, h3, h4, q⟩
  | ne =>
    obtain ⟨t', ht, rfl⟩ := Option.map_eq_some_iff.mp (show (eqR st a b).map (!·) = some t from h)
    obtain ⟨d, e, h1, h2, h3, h4, rfl⟩ := eqR_ok rs ra rb ht
    exact op_neD (by omega) pins s σ H x y v u Q I rx ry ⟨d, e, h1, h2, h3, h4, q⟩
  | lt =>
    rcases hlt (show ltR a b = some t from h) with ⟨i, j, rfl, rfl, rfl⟩ | ⟨i, j, rfl, rfl, rfl⟩
    · exact op_lt pins s σ H x y v u Q I rx ry ⟨i, j, rr_int ra, rr_int rb, q⟩
    · exact op_lt_str pins s σ H x y v u Q I rx ry ⟨i, j, rr_str ra, rr_str rb, q⟩
  | gt =>
    rcases hlt (show ltR b a = some t from h) with ⟨i, j, rfl, rfl, rfl⟩ | ⟨i, j, rfl, rfl, rfl⟩
    · exact op_gt pins s σ H x y v u Q I rx ry ⟨j, i, rr_int ra, rr_int rb, q⟩
    · exact op_gt_str pins s σ H x y v u Q I rx ry ⟨j, i, rr_str ra, rr_str rb, q⟩
  | le =>
    rcases hle (show leR a b = some t from h) with ⟨i, j, rfl, rfl, rfl⟩ | ⟨i, j, rfl, rfl, rfl⟩
    · exact op_le pins s σ H x y v u Q I rx ry ⟨i, j, rr_int ra, rr_int rb, q⟩
    · exact op_le_str pins s σ H x y v u Q I rx ry ⟨i, j, rr_str ra, rr_str rb, q⟩
  | ge =>
    rcases hle (show leR b a = some t from h) with ⟨i, j, rfl, rfl, rfl⟩ | ⟨i, j, rfl, rfl, rfl⟩
    · exact op_ge pins s σ H x y v u Q I rx ry ⟨j, i, rr_int ra, rr_int rb, q⟩
    · exact op_ge_str pins s σ H x y v u Q I rx ry ⟨j, i, rr_str ra, rr_str rb, q⟩
  | is =>
    obtain ⟨h1, rfl⟩ := his (show isR a b = some t from h)
    exact op_isN pins s σ H x y v u Q I rx ry ⟨h1, q⟩
  | isn =>
    obtain ⟨t', ht, rfl⟩ := Option.map_eq_some_iff.mp (show (isR a b).map (!·) = some t from h)
    obtain ⟨h1, rfl⟩ := his ht
    exact op_notN pins s σ H x y v u Q I rx ry ⟨h1, q⟩
  | inn =>
    rcases inR_ok rs ra rb (show inR st a b = some t from h) with ⟨i, j, h1, h2, rfl⟩ | ⟨d, qs, p, vs, h1, rfl, h3, h4, h5, h6, rfl⟩
    · exact op_in_str pins s σ H x y v u Q I rx ry ⟨i, j, h1, h2, q⟩
    · cases ry
      rcases h3 with h3 | h3
      · exact op_inD hu pins s σ H x (.ref p) v _ Q I rx rfl ⟨d, qs, h1, .lst h3 h4, h5, h6, q⟩
      · exact in_tup (neg := false) hu I rx h1 h3 h4 h5 h6 q
  | nin =>
    obtain ⟨t', ht, rfl⟩ := Option.map_eq_some_iff.mp (show (inR st a b).map (!·) = some t from h)
    rcases inR_ok rs ra rb ht with ⟨i, j, h1, h2, rfl⟩ | ⟨d, qs, p, vs, h1, rfl, h3, h4, h5, h6, rfl⟩
    · exact op_notin_str pins s σ H x y v u Q I rx ry ⟨i, j, h1, h2, q⟩
    · cases ry
      rcases h3 with h3 | h3
      · exact op_notInD hu pins s σ H x (.ref p) v _ Q I rx rfl ⟨d, qs, h1, .lst h3 h4, h5, h6, q⟩
      · exact in_tup (neg := true) hu I rx h1 h3 h4 h5 h6 q
end
end Nv

set_option Elab.async false
set_option linter.all false
set_option maxRecDepth 100000
set_option autoImplicit false
/-! NvBi: built-ins, methods, subscripts keep what the interpreter says of them. -/
namespace Nv
open PySem PySem.Spec PyProof.Rows L2

/-- a built-in of one argument as a rule -/
def rC1 (K : PySem.W.Frag) (W : Wx) (op : Sto → RD → Option RD) : List V → Hp → VK → Prop := fun xs H Q => ∃ x H0 ρ s a, xs = [x] ∧ RS K ρ H s ∧ RR K H0 ρ H a x ∧ Post K W (rRR K) ρ H Q (ofO (op s a) s)
def rC2 (K : PySem.W.Frag) (W : Wx) (op : Sto → RD → RD → Option RD) : List V → Hp → VK → Prop := fun xs H Q => ∃ x y H0 H0' ρ s a b, xs = [x, y] ∧ RS K ρ H s ∧ RR K H0 ρ H a x ∧ RR K H0' ρ H b y ∧ Post K W (rRR K) ρ H Q (ofO (op s a b) s)
/-- a method as a rule: the receiver is in the store or a value -/
def rM (K : PySem.W.Frag) (W : Wx) (op : D → Sto → Res RD) : V → List V → Hp → VK → Prop := fun x xs H Q => ∃ ρ s d, xs = [] ∧ RS K ρ H s ∧ RV K ρ H d x ∧ Post K W (rRR K) ρ H Q (op d s)
def rM1 (K : PySem.W.Frag) (W : Wx) (op : D → RD → Sto → Res RD) : V → List V → Hp → VK → Prop := fun x xs H Q => ∃ y H0 ρ s d a, xs = [y] ∧ RS K ρ H s ∧ RV K ρ H d x ∧ RR K H0 ρ H a y ∧ Post K W (rRR K) ρ H Q (op d a s)
def B1.val : B1 → Value
  | .len => .builtin "len" | .tuple => .type "tuple" | .list => .type "list" | .all => .builtin "all" | .any => .builtin "any" | .sum => .builtin "sum" | .int => .type "int" | .abs => .builtin "abs"
def B2.val : B2 → Value
  | .max => .builtin "max" | .min => .builtin "min"
section
variable {K : PySem.W.Frag} {ρ : List Addr} {H H0 : Hp} {s : Sto}
theorem blsOf_ok : ∀ {ds : List D} {vs : List V} {bs : List Bool}, RVs K ρ H ds vs → blsOf ds = some bs → vs = bs.map V.bl
  | [], vs, bs, h, e => by unfold RVs at h; unfold blsOf at e; subst h; cases e; rfl
  | d :: ds, vs, bs, h, e => by
    unfold RVs at h
    obtain ⟨v, r, rfl, h2, h3⟩ := h
    cases d with
    | bl b =>
      unfold blsOf at e
      cases q : blsOf ds with
      | none => rw [q] at e; cases e
      | some cs =>
        rw [q] at e
        cases e
        rw [blsOf_ok h3 q, rv_bl.mp h2]
        rfl
    | _ => unfold blsOf at e; cases e
theorem intsOf_ok : ∀ {ds : List D} {vs : List V} {bs : List Int}, RVs K ρ H ds vs → intsOf ds = some bs → vs = bs.map V.int
  | [], vs, bs, h, e => by unfold RVs at h; unfold intsOf at e; subst h; cases e; rfl
  | d :: ds, vs, bs, h, e => by
    unfold RVs at h
    obtain ⟨v, r, rfl, h2, h3⟩ := h
    cases d with
    | int b =>
      unfold intsOf at e
      cases q : intsOf ds with
      | none => rw [q] at e; cases e
      | some cs =>
        rw [q] at e
        cases e
        rw [intsOf_ok h3 q, rv_int.mp h2]
        rfl
    | _ => unfold intsOf at e; cases e
theorem bindo {α β : Type} {o : Option α} {f : α → Option β} {b : β} (h : o.bind f = some b) : ∃ a, o = some a ∧ f a = some b := by
  cases o with
  | none => cases h
  | some a => exact ⟨a, rfl, h⟩
theorem post_o {W : Wx} {Q : VK} {o : Option RD} (h : Post K W (rRR K) ρ H Q (ofO o s)) : ∃ a, o = some a ∧ Post K W (rRR K) ρ H Q (.ok a s) := by
  cases o with
  | none => exact h.elim
  | some a => exact ⟨a, rfl, h⟩
end
section
variable {X : Cx} {W : Wx}
theorem call_b1 (f : B1) (hc : X.calm = true) : CallR X f.val (rC1 X.K W (b1R f)) := by
  intro pins s σ H xs us Q I r h
  obtain ⟨x, H0, ρ, st, a, rfl, rs, ra, h⟩ := h
  obtain ⟨d, e, h⟩ := post_o h
  cases f with
  | len =>
    unfold b1R at e
    simp only at e
    split at e
    · rename_i z
      split at e
      · rename_i c
        cases e
        exact call_len pins s σ H _ us Q I r ⟨x, z.length, rfl, by rw [rr_str ra]; exact ⟨c, rfl⟩, post_val rs h (rv_int.mpr rfl)⟩
      · cases e
    · obtain ⟨ys, e1, e2⟩ := Option.map_eq_some_iff.mp e
      cases e2
      obtain ⟨p, vs, rfl, h1, h2⟩ := asQ_ok rs ra e1
      have hl := h2.length
      refine call_len pins s σ H _ us Q I r ⟨_, ys.length, rfl, ?_, post_val rs h (rv_int.mpr rfl)⟩
      rcases h1 with h1 | h1
      · exact .inl ⟨vs, h1, hl.symm⟩
      · exact .inr ⟨vs, h1, hl.symm⟩
  | tuple =>
    obtain ⟨ys, e1, e2⟩ := Option.map_eq_some_iff.mp (show (asQ st a).map _ = some d from e)
    cases e2
    obtain ⟨p, vs, rfl, h1, h2⟩ := asQ_ok rs ra e1
    refine call_tuple_of pins s σ H _ us Q I r ⟨p, vs, rfl, ?_⟩
    rcases h1 with h1 | h1
    · exact .inl ⟨h1, fun l hl => post_tup rs h2 h hl⟩
    · exact .inr ⟨h1, post_val rs h (rv_tup.mpr ⟨p, vs, rfl, h1, h2⟩)⟩
  | list =>
    obtain ⟨ys, e1, e2⟩ := Option.map_eq_some_iff.mp (show (asQ st a).map _ = some d from e)
    cases e2
    obtain ⟨p, vs, rfl, h1, h2⟩ := asQ_ok rs ra e1
    exact call_list_of pins s σ H _ us Q I r ⟨p, vs, rfl, h1, fun l hl => post_laid rs h2 h hl⟩
  | all =>
    obtain ⟨bs, e1, e2⟩ := Option.map_eq_some_iff.mp (show ((asL st a).bind blsOf).map _ = some d from e)
    cases e2
    obtain ⟨ys, e3, e4⟩ := bindo e1
    obtain ⟨p, vs, rfl, h1, h2⟩ := asL_ok rs ra e3
    refine cr_all hc pins s σ H _ us Q I r ⟨p, bs, rfl, ?_, post_val rs h (rv_bl.mpr rfl)⟩
    rw [← blsOf_ok h2 e4]; exact h1
  | any =>
    obtain ⟨bs, e1, e2⟩ := Option.map_eq_some_iff.mp (show ((asL st a).bind blsOf).map _ = some d from e)
    cases e2
    obtain ⟨ys, e3, e4⟩ := bindo e1
    obtain ⟨p, vs, rfl, h1, h2⟩ := asL_ok rs ra e3
    refine cr_any hc pins s σ H _ us Q I r ⟨p, bs, rfl, ?_, post_val rs h (rv_bl.mpr rfl)⟩
    rw [← blsOf_ok h2 e4]; exact h1
  | sum =>
    obtain ⟨bs, e1, e2⟩ := Option.map_eq_some_iff.mp (show ((asL st a).bind intsOf).map _ = some d from e)
    cases e2
    obtain ⟨ys, e3, e4⟩ := bindo e1
    obtain ⟨p, vs, rfl, h1, h2⟩ := asL_ok rs ra e3
    refine cr_sum hc pins s σ H _ us Q I r ⟨p, bs, rfl, ?_, post_val rs h (rv_int.mpr rfl)⟩
    rw [← intsOf_ok h2 e4]; exact h1
  | int =>
    unfold b1R at e
    simp only at e
    split at e
    · cases e
      exact call_int1 pins s σ H _ us Q I r (.inl ⟨_, by rw [rr_int ra], post_val rs h (rv_int.mpr rfl)⟩)
    · cases e
      exact call_int1 pins s σ H _ us Q I r (.inr ⟨_, by rw [rr_bl ra], post_val rs h (rv_int.mpr rfl)⟩)
    · cases e
  | abs =>
    unfold b1R at e
    simp only at e
    split at e
    · cases e
      exact call_abs pins s σ H _ us Q I r ⟨_, by rw [rr_int ra], post_val rs h (rv_int.mpr rfl)⟩
    · cases e
theorem call_b2 (f : B2) (hc : X.calm = true) : CallR X f.val (rC2 X.K W (b2R f)) := by
  intro pins s σ H xs us Q I r h
  obtain ⟨x, y, H0, H0', ρ, st, a, b, rfl, rs, ra, rb, h⟩ := h
  obtain ⟨d, e, h⟩ := post_o h
  unfold b2R at e
  split at e
  · cases e
    exact call_max2 hc pins s σ H _ us Q I r ⟨_, _, by rw [rr_int ra, rr_int rb], post_val rs h (rv_int.mpr rfl)⟩
  · cases e
    exact call_min2 hc pins s σ H _ us Q I r ⟨_, _, by rw [rr_int ra, rr_int rb], post_val rs h (rv_int.mpr rfl)⟩
  · cases e
/-- isinstance(x, T) -/
theorem sqt_ty {K : PySem.W.Frag} {H : Hp} {a : Addr} {xs : List V} (h : SqT K H a xs) : TyX K H (.ref a) (.type "tuple") := by
  rcases h with (h | ⟨o, h⟩) | ⟨o, its, n, h1, h2, _⟩
  · exact .base (.tup h)
  · exact .fTuple h
  · exact .kTuple h1 h2
theorem sql_ty {K : PySem.W.Frag} {H : Hp} {a : Addr} {xs : List V} (h : SqL K H a xs) : TyX K H (.ref a) (.type "list") := by
  rcases h with (h | ⟨o, h⟩) | ⟨o, its, n, h1, h2, _⟩
  · exact .base (.lst h)
  · exact .base (.frz h)
  · exact .kList h1 h2
theorem call_isin (t : Ty) : CallR X (.builtin "isinstance") (fun xs H Q => ∃ x H0 ρ s a, xs = [x, .ty t.name] ∧ RS X.K ρ H s ∧ RR X.K H0 ρ H a x ∧ Post X.K W (rRR X.K) ρ H Q (ofO ((isinR s t a).map fun b => RD.d (.bl b)) s)) := by
  intro pins s σ H xs us Q I r h
  obtain ⟨x, H0, ρ, st, a, rfl, rs, ra, h⟩ := h
  obtain ⟨d, e, h⟩ := post_o h
  obtain ⟨b, e1, e2⟩ := Option.map_eq_some_iff.mp e
  cases e2
  have q : Q (.bl b) H := post_val rs h (rv_bl.mpr rfl)
  have go : ∀ (n : String), TyX X.K H x (.type n) → kitB n t.name = some b → wpAny (model X.prog X.w) X.A (call (.builtin "isinstance") us) (EP X pins σ Q) X.xe s := fun n hn hk =>
    call_isi pins s σ H _ us Q I r ⟨x, .ty t.name, .type n, .type t.name, b, rfl, .ty _, hn, kit_ty hk, q⟩
  unfold isinR at e1
  split at e1
  · cases e1
    obtain ⟨p, vs, rfl, h1, _⟩ := ra
    exact go "list" (sql_ty (SqL.of h1)) (by cases t <;> decide +kernel)
  · cases e1
    rw [rr_non ra] at go
    exact go "NoneType" (.base .non) (by cases t <;> decide +kernel)
  · cases e1
    rw [rr_bl ra] at go
    exact go "bool" (.base (.bl _)) (by cases t <;> decide +kernel)
  · cases e1
    rw [rr_int ra] at go
    exact go "int" (.base (.int _)) (by cases t <;> decide +kernel)
  · cases e1
    rw [rr_str ra] at go
    exact go "str" (.base (.str _)) (by cases t <;> decide +kernel)
  · cases e1
    obtain ⟨p, vs, rfl, h1, _⟩ := rr_tup ra
    exact go "tuple" (sqt_ty h1) (by cases t <;> decide +kernel)
  · cases e1
    unfold RR RV at ra
    obtain ⟨p, vs, rfl, h1, _⟩ := ra
    exact go "list" (sql_ty h1.sql) (by cases t <;> decide +kernel)
  · obtain ⟨ys, e2, e3⟩ := Option.map_eq_some_iff.mp e1
    cases e3
    unfold RR RV at ra
    obtain ⟨p, rfl, h1⟩ := ra
    obtain ⟨p', vs, h2, h3, _⟩ := lstAt_ok rs e2
    rw [h1] at h2
    cases h2
    exact go "list" (sql_ty (SqL.of h3)) (by cases t <;> decide +kernel)

/-! ### subscripts, slices -/
theorem atI_ok {K : PySem.W.Frag} {ρ : List Addr} {H : Hp} {xs : List D} {vs : List V} {i : Int} {d : D} (r : RVs K ρ H xs vs) (h : atI xs i = some d) : ∃ v, atI vs i = some v ∧ RV K ρ H d v := by
  unfold atI at h ⊢
  rw [r.length]
  cases e : ixN xs.length i with
  | none => rw [e] at h; cases h
  | some j =>
    rw [e] at h
    exact r.get h
theorem ix_any : IxR X (rOp X.K W ixR) := by
  intro value slice pins s σ H x y v u Q I rx ry h hs
  obtain ⟨H0, H0', ρ, st, a, b, rs, ra, rb, h⟩ := h
  obtain ⟨d, e, h⟩ := post_o h
  unfold ixR at e
  split at e
  · rename_i i
    split at e
    · rename_i z
      split at e
      · rename_i c
        obtain ⟨k, e1, e2⟩ := Option.map_eq_some_iff.mp e
        cases e2
        exact ix_str value slice pins s σ H x y v u Q I rx ry ⟨z, i, k, rr_str ra, rr_int rb, c, e1, post_val rs h (rv_str.mpr rfl)⟩ hs
      · cases e
    · obtain ⟨xs, e1, e2⟩ := bindo e
      obtain ⟨z, e3, e4⟩ := Option.map_eq_some_iff.mp e2
      cases e4
      obtain ⟨p, vs, h0, h1, h2⟩ := asQ_ok rs ra e1
      obtain ⟨v1, h3, h4⟩ := atI_ok h2 e3
      rcases h1 with h1 | h1
      · exact ix_list value slice pins s σ H x y v u Q I rx ry ⟨p, vs, i, v1, h0, rr_int rb, h1, h3, post_val rs h h4⟩ hs
      · exact ix_tup value slice pins s σ H x y v u Q I rx ry ⟨p, vs, i, v1, h0, rr_int rb, h1, h3, post_val rs h h4⟩ hs
  · cases e
theorem cut_ok {K : PySem.W.Frag} {ρ : List Addr} {H : Hp} {xs : List D} {vs : List V} (r : RVs K ρ H xs vs) (lo hi : Option Int) : RVs K ρ H (cutD xs lo hi) (cutV vs lo hi) := by
  unfold cutD cutV
  rw [r.length]
  exact (r.drop _).take _
theorem cutD_whole (xs : List D) (lo hi : Option Int) (h : HT.sIx xs.length 0 lo = 0 ∧ HT.sIx xs.length xs.length hi = xs.length) : cutD xs lo hi = xs := by
  unfold cutD
  rw [h.1, h.2, List.drop_zero, Nat.sub_zero, List.take_length]
theorem sl_any : SlR X (fun x lo hi H Q => ∃ H0 ρ s a, RS X.K ρ H s ∧ RR X.K H0 ρ H a x ∧ Post X.K W (rRR X.K) ρ H Q (ofO (slR s a lo hi) s)) := by
  intro pins s σ H x v vl vu lo hi sl Q I rx hs pl pu h
  obtain ⟨H0, ρ, st, a, rs, ra, h⟩ := h
  obtain ⟨d, e, h⟩ := post_o h
  unfold slR at e
  split at e
  · rename_i z
    split at e
    · rename_i c
      cases e
      exact sl_str pins s σ H x v vl vu lo hi sl Q I rx hs pl pu ⟨z, rr_str ra, c, post_val rs h (rv_str.mpr rfl)⟩
    · cases e
  · rename_i ds
    cases e
    obtain ⟨p, vs, h0, h1, h2⟩ := rr_tup ra
    refine sl_tupA pins s σ H x v vl vu lo hi sl Q I rx hs pl pu ⟨p, vs, h0, h1, fun hw => ?_, fun hw t ht => ?_⟩
    · rw [h2.length] at hw
      rw [cutD_whole ds lo hi hw] at h
      exact post_val rs h (rv_tup.mpr ⟨p, vs, rfl, h1, h2⟩)
    · exact post_tup rs (cut_ok h2 lo hi) h ht
  · obtain ⟨xs, e1, e2⟩ := Option.map_eq_some_iff.mp e
    cases e2
    obtain ⟨p, vs, h0, h1, h2⟩ := asL_ok rs ra e1
    exact sl_list pins s σ H x v vl vu lo hi sl Q I rx hs pl pu ⟨p, vs, h0, h1, fun t ht => post_laid rs (cut_ok h2 lo hi) h ht⟩

/-! ### methods of lists -/
theorem obj_lst {K : PySem.W.Frag} {ρ : List Addr} {H : Hp} {s : Sto} {i : Nat} {x : V} {xs : List D} (rs : RS K ρ H s) (r : RV K ρ H (.obj i) x) (h : s[i]? = some (.lst xs)) : ∃ p vs, x = .ref p ∧ ρ[i]? = some p ∧ H p = some (.lst vs) ∧ RVs K ρ H xs vs := by
  unfold RV at r
  obtain ⟨a, rfl, h2⟩ := r
  obtain ⟨p, vs, h3, h4, h5⟩ := rs.lstAt h
  rw [h2] at h3
  cases h3
  exact ⟨a, vs, rfl, h2, h4, h5⟩
theorem post_write {K : PySem.W.Frag} {ρ : List Addr} {H : Hp} {s : Sto} {Q : VK} {i : Nat} {p : Addr} {vs ws : List V} {xs : List D} {d : D} {v : V} (rs : RS K ρ H s) (hi : ρ[i]? = some p) (hp : H p = some (.lst vs)) (r : RVs K ρ H xs ws)
    (h : Post K W (rRR K) ρ H Q (.ok (.d d) (s.set i (.lst xs)))) (rd : RV K ρ H d v) : Q v (upd H p (.lst ws)) :=
  h ρ _ v (Ext.write hp (List.mem_of_getElem? hi)) (rs.write hi hp r) (RV.mono (Ext.write hp (List.mem_of_getElem? hi)) d v rd)
theorem mt_m0 (m : M0) : MtR X ("list." ++ m.name) (rM X.K W (m0R m)) := by
  intro pins s σ H x xs v us Q I rx rv h
  obtain ⟨ρ, st, d, rfl, rs, rd, h⟩ := h
  unfold m0R at h
  split at h
  · rename_i i
    split at h
    · rename_i ys e
      obtain ⟨p, vs, rfl, h1, h2, h3⟩ := obj_lst rs rd e
      exact mt_reverse pins s σ H _ _ v us Q I rx rv ⟨p, vs, rfl, rfl, h2, post_write rs h1 h2 h3.reverse h (rv_non.mpr rfl)⟩
    · rename_i ys e
      obtain ⟨p, vs, rfl, h1, h2, h3⟩ := obj_lst rs rd e
      exact mt_clear pins s σ H _ _ v us Q I rx rv ⟨p, vs, rfl, rfl, h2, post_write rs h1 h2 .nil_ h (rv_non.mpr rfl)⟩
    · exact h.elim
  · exact h.elim
theorem mt_m1 (m : M1) : MtR X ("list." ++ m.name) (rM1 X.K W (m1R m)) := by
  intro pins s σ H x xs v us Q I rx rv h
  obtain ⟨y, H0, ρ, st, d, a, rfl, rs, rd, ra, h⟩ := h
  unfold m1R at h
  split at h
  · rename_i i
    split at h
    · rename_i ys z e
      obtain ⟨p, vs, rfl, h1, h2, h3⟩ := obj_lst rs rd e
      split at h
      · rename_i c
        exact mt_append pins s σ H _ _ v us Q I rx rv ⟨p, vs, y, rfl, rfl, h2, by rw [h3.length]; exact c, post_write rs h1 h2 (h3.append (.one ra)) h (rv_non.mpr rfl)⟩
      · exact h.elim
    · rename_i ys e
      obtain ⟨p, vs, rfl, h1, h2, h3⟩ := obj_lst rs rd e
      split at h
      · rename_i zs e2
        split at h
        · rename_i c
          obtain ⟨q, us', rfl, h4, h5⟩ := asM_ok rs ra e2
          exact mt_extend pins s σ H _ _ v us Q I rx rv ⟨p, q, vs, us', rfl, rfl, h2, h4, by rw [h3.length, h5.length]; exact c, post_write rs h1 h2 (h3.append h5) h (rv_non.mpr rfl)⟩
        · exact h.elim
      · exact h.elim
    · exact h.elim
  · exact h.elim
/-! ### stores -/
theorem set_any : PSet X (fun o i v H Q => ∃ ρ s p k d, RS X.K ρ H s ∧ RV X.K ρ H p o ∧ RV X.K ρ H k i ∧ RV X.K ρ H d v ∧
    match setR p k d s with
    | .ok _ s' => ∀ H', Ext X.K ρ H ρ H' → RS X.K ρ H' s' → Q H'
    | _ => False) := by
  intro pins s σ H o i v ov iv u Q I ro ri rv h
  obtain ⟨ρ, st, p, k, d, rs, rp, rk, rd, h⟩ := h
  unfold setR at h
  split at h
  · rename_i r s' e
    split at e
    · split at e
      · rename_i xs ex
        split at e
        · rename_i j ej
          cases e
          obtain ⟨q, vs, rfl, h1, h2, h3⟩ := obj_lst rs rp ex
          refine set_list pins s σ H _ _ v ov iv u Q I ro ri rv ⟨q, vs, _, j, rfl, rv_int.mp rk, h2, by rw [h3.length]; exact ej, ?_⟩
          exact h _ (Ext.write h2 (List.mem_of_getElem? h1)) (rs.write h1 h2 (RVs.set rd j h3))
        · cases e
      · cases e
    · cases e
  · exact h.elim
/-! ### truth -/
theorem truth_ok {K : PySem.W.Frag} {ρ : List Addr} {H H0 : Hp} {s : Sto} {a : RD} {x : V} {t : Bool} (rs : RS K ρ H s) (ra : RR K H0 ρ H a x) (h : truthR s a = some t) : TruV K x H t := by
  have nil_ : ∀ {ds : List D} {vs : List V}, RVs K ρ H ds vs → (!ds.isEmpty) = !vs.isEmpty := fun {ds vs} r => by
    have := r.length
    cases ds <;> cases vs <;> first | rfl | cases this
  unfold truthR at h
  split at h
  · cases h
    obtain ⟨p, vs, rfl, h1, h2, _⟩ := ra
    exact .inl ⟨vs, SqL.of h1, nil_ h2⟩
  · cases h; rw [rr_non ra]; rfl
  · cases h; rw [rr_bl ra]; rfl
  · cases h; rw [rr_int ra]; rfl
  · split at h
    · rename_i c
      cases h; rw [rr_str ra]; exact ⟨c, rfl⟩
    · cases h
  · cases h
    obtain ⟨p, vs, rfl, h1, h2⟩ := rr_tup ra
    exact .inr (.inl ⟨vs, h1, nil_ h2⟩)
  · cases h
    unfold RR RV at ra
    obtain ⟨p, vs, rfl, h1, h2⟩ := ra
    exact .inl ⟨vs, h1.sql, nil_ h2⟩
  · obtain ⟨ys, e2, e3⟩ := Option.map_eq_some_iff.mp h
    cases e3
    unfold RR RV at ra
    obtain ⟨p, rfl, h1⟩ := ra
    obtain ⟨p', vs, h2, h3, h4⟩ := lstAt_ok rs e2
    rw [h1] at h2
    cases h2
    exact .inl ⟨vs, SqL.of h3, nil_ h4⟩
end
end Nv

set_option Elab.async false
set_option linter.all false
set_option maxRecDepth 100000
set_option autoImplicit false
/-! NvCk: whether a term of the language stands for a piece of the text. -/
namespace Nv
open PySem L2

def visB (sc : Scope) (x : Str) : Bool :=
  match sc.names.lookup x with
  | some .local => true
  | some .cell => true
  | some .free => true
  | _ => false
def glB (sc : Scope) (x : Str) : Bool := decide (sc.names.lookup x = some .globalImplicit) && !(x == ("__debug__" : Str)) && !(x == ("__name__" : Str))
/-- a name that may be stored -/
def locB (sc : Scope) (x : Str) : Bool :=
  match sc.names.lookup x with
  | some .local => true
  | some .cell => true
  | _ => false
mutual
def ckT (N : List Str) (sc : Scope) : Tg → Expr → Bool
  | .v i, .Name x _ => decide (N[i]? = some x) && locB sc x
  | .v _, _ => false
  | t, .Tuple es _ _ => ckTs N sc t es
  | _, _ => false
def ckTs (N : List Str) (sc : Scope) : Tg → List Expr → Bool
  | .n, [] => true
  | .c a b, e :: es => ckT N sc a e && ckTs N sc b es
  | _, _ => false
end
def Tg.slots : Tg → List Nat
  | .v i => [i]
  | .n => []
  | .c a b => a.slots ++ b.slots
def notCall0 : Expr → Bool
  | .Call _ [] _ _ => false
  | _ => true
/-- forms that need no more looks -/
def okE : Expr → Bool
  | .Starred .. => false
  | .Set .. => false
  | .SetComp .. => false
  | .DictComp .. => false
  | .Slice .. => false
  | _ => true
def isLC : Expr → Bool
  | .ListComp .. => true
  | _ => false
def ownOf (N : List Str) (own : List Nat) : List (Str × Nat) := own.filterMap fun i => (N[i]?).map fun x => (x, i)
def tgOk (tu : Bool) (tg : Expr) : Bool := !tu || (match tg with | .Tuple .. => true | _ => false)
structure Ck where
  e : Scope → Expr → Bool
  l : Scope → List Expr → Bool
def noE : Scope → Expr → Bool := fun _ _ => false
def noL : Scope → List Expr → Bool := fun _ _ => false
def ck (T : Tab) (N : List Str) : Ex → Ck
  | .nil => ⟨noE, fun _ es => match es with | [] => true | _ => false⟩
  | .cons a b => ⟨noE, fun sc es => match es with | e :: r => (ck T N a).e sc e && (ck T N b).l sc r | _ => false⟩
  | .var i => ⟨fun sc e => match e with | .Name x _ => decide (N[i]? = some x) && visB sc x && !(x == ("__debug__" : Str)) && !(x == ("__classdict__" : Str)) | _ => false, noL⟩
  | .int z => ⟨fun _ e => match e with | .Constant (.int y) _ _ => decide (y = z) | _ => false, noL⟩
  | .str z => ⟨fun _ e => match e with | .Constant (.str y) _ _ => decide (y = z) | _ => false, noL⟩
  | .bl z => ⟨fun _ e => match e with | .Constant (.bool y) _ _ => decide (y = z) | _ => false, noL⟩
  | .non => ⟨fun _ e => match e with | .Constant .none _ _ => true | _ => false, noL⟩
  | .gc j => ⟨fun sc e => match e with | .Name x _ => decide ((T.cons[j]?).map (·.1) = some x) && glB sc x | _ => false, noL⟩
  | .tup es => ⟨fun sc e => match e with | .Tuple xs _ _ => (ck T N es).l sc xs | _ => false, noL⟩
  | .lst es => ⟨fun sc e => match e with | .List xs _ => (ck T N es).l sc xs | _ => false, noL⟩
  | .bin o a b => ⟨fun sc e => match e with | .BinOp x op y _ => decide (op = o.op) && (ck T N a).e sc x && (ck T N b).e sc y | _ => false, noL⟩
  | .neg a => ⟨fun sc e => match e with | .UnaryOp .USub x _ => (ck T N a).e sc x | _ => false, noL⟩
  | .nt a => ⟨fun sc e => match e with | .UnaryOp .Not x _ => (ck T N a).e sc x | _ => false, noL⟩
  | .cmp o a b => ⟨fun sc e => match e with | .Compare x [op] [y] _ => decide (op = o.op) && (ck T N a).e sc x && (ck T N b).e sc y | _ => false, noL⟩
  | .and a b => ⟨fun sc e => match e with
    | .BoolOp .And [x, y] _ => (ck T N a).e sc x && (ck T N b).e sc y
    | .BoolOp .And (x :: y :: z :: r) p => (ck T N a).e sc x && (ck T N b).e sc (.BoolOp .And (y :: z :: r) p)
    | _ => false, noL⟩
  | .or a b => ⟨fun sc e => match e with
    | .BoolOp .Or [x, y] _ => (ck T N a).e sc x && (ck T N b).e sc y
    | .BoolOp .Or (x :: y :: z :: r) p => (ck T N a).e sc x && (ck T N b).e sc (.BoolOp .Or (y :: z :: r) p)
    | _ => false, noL⟩
  | .ife c a b => ⟨fun sc e => match e with | .IfExp z x y _ => (ck T N c).e sc z && (ck T N a).e sc x && (ck T N b).e sc y | _ => false, noL⟩
  | .call f es => ⟨fun sc e => match e with | .Call (.Name x _) xs [] _ => decide ((T.fns[f]?).map (·.name) = some x) && glB sc x && (ck T N es).l sc xs | _ => false, noL⟩
  | .b1 f a => ⟨fun sc e => match e with | .Call (.Name x _) [y] [] _ => decide (x = (f.name : Str)) && glB sc x && T.blts.contains x && (ck T N a).e sc y | _ => false, noL⟩
  | .b2 f a b => ⟨fun sc e => match e with | .Call (.Name x _) [y, z] [] _ => decide (x = (f.name : Str)) && glB sc x && T.blts.contains x && (ck T N a).e sc y && (ck T N b).e sc z | _ => false, noL⟩
  | .i1 f a => ⟨fun sc e => match e with | .Call (.Name x _) [y] [] _ => decide (x = (f.name : Str)) && glB sc x && T.blts.contains x && (ck T N a).e sc y | _ => false, noL⟩
  | .i2 f a b => ⟨fun sc e => match e with | .Call (.Name x _) [y, z] [] _ => decide (x = (f.name : Str)) && glB sc x && T.blts.contains x && (ck T N a).e sc y && (ck T N b).e sc z | _ => false, noL⟩
  | .isin a t => ⟨fun sc e => match e with | .Call (.Name x _) [y, .Name z _] [] _ => decide (x = ("isinstance" : Str)) && glB sc x && T.blts.contains x && (ck T N a).e sc y && decide (z = (t.name : Str)) && glB sc z && T.blts.contains z | _ => false, noL⟩
  | .fs f a => ⟨fun sc e => match e with | .Call (.Name x _) [.Call (.Name z _) [y] [] _] [] _ => decide (x = (f.name : Str)) && glB sc x && T.blts.contains x && decide (z = ("set" : Str)) && glB sc z && T.blts.contains z && (ck T N a).e sc y | _ => false, noL⟩
  | .m0 m o => ⟨fun sc e => match e with | .Call (.Attribute y x ap) [] [] cp => decide (x = (m.name : Str)) && (ap.endLine == cp.line) && notCall0 y && (ck T N o).e sc y | _ => false, noL⟩
  | .m1 m o a => ⟨fun sc e => match e with | .Call (.Attribute y x ap) [z] [] cp => decide (x = (m.name : Str)) && (ap.endLine == cp.line) && notCall0 y && (ck T N o).e sc y && (ck T N a).e sc z | _ => false, noL⟩
  | .ix a b => ⟨fun sc e => match e with | .Subscript x y _ => (ck T N a).e sc x && (ck T N b).e sc y | _ => false, noL⟩
  | .sl a lo hi => ⟨fun sc e => match e with
    | .Subscript x (.Slice l u none _) _ => (ck T N a).e sc x && (match l with | none => lo.isNil | some y => !lo.isNil && (ck T N lo).e sc y) && (match u with | none => hi.isNil | some y => !hi.isNil && (ck T N hi).e sc y)
    | _ => false, noL⟩
  | .cp elt tg it c own => ⟨fun sc e => match e with
    | .ListComp x [⟨t, i, ifs, 0⟩] scope _ => (ck T N it).e sc i && tgOk it.tupIt t && blkC N sc scope (ownOf N own) && decide ((ownOf N own).map (·.2) = own) && ckT N scope tg t && tg.slots.all (fun j => own.contains j)
        && (match ifs with | [] => c.isNil | [y] => !c.isNil && (ck T N c).e (relS scope sc) y | _ => false) && (ck T N elt).e (relS scope sc) x
    | _ => false, noL⟩

structure CkS where
  s : Scope → Stmt → Bool
  l : Scope → List Stmt → Bool
def noS : Scope → Stmt → Bool := fun _ _ => false
def noSL : Scope → List Stmt → Bool := fun _ _ => false
/-- whether a comprehension given to a name is stored by its own frame -/
def swapB (sc : Scope) (t : Expr) (v : Expr) : Option Bool :=
  match v with
  | .ListComp _ _ scope pos => (match t with
    | .Name y py => if sc.names.lookup y = some .local then (if (py.line == pos.line) = true ∧ (scope.names.any fun (n, k) => n == y && (k == .local || k == .cell)) = false then some true else none) else some false
    | _ => some false)
  | _ => some false
def ckS (T : Tab) (N : List Str) : Sm → CkS
  | .nil => ⟨noS, fun _ ss => match ss with | [] => true | _ => false⟩
  | .cons a b => ⟨noS, fun sc ss => match ss with | e :: r => (ckS T N a).s sc e && (ckS T N b).l sc r | _ => false⟩
  | .ex e => ⟨fun sc s => match s with | .Expr x _ => !isLC x && (ck T N e).e sc x | _ => false, noSL⟩
  | .set tg e => ⟨fun sc s => match s with | .Assign [t] x p => ckT N sc tg t && (ck T N e).e sc x && (match tg with | .v _ => true | _ => (match x with | .Tuple .. => false | _ => true)) && (swapB sc t x).isSome | _ => false, noSL⟩
  | .setI o i e => ⟨fun sc s => match s with | .Assign [.Subscript x y _] z _ => (ck T N o).e sc x && (ck T N i).e sc y && (ck T N e).e sc z | _ => false, noSL⟩
  | .aug i o e => ⟨fun sc s => match s with | .AugAssign (.Name x _) op z _ => decide (op = o.op) && decide (N[i]? = some x) && locB sc x && (ck T N e).e sc z | _ => false, noSL⟩
  | .ret e => ⟨fun sc s => match s with | .Return (some x) _ => (ck T N e).e sc x | _ => false, noSL⟩
  | .retN => ⟨fun sc s => match s with | .Return none _ => true | _ => false, noSL⟩
  | .ifs c a b => ⟨fun sc s => match s with | .If x y z _ => (ck T N c).e sc x && (ckS T N a).l sc y && (ckS T N b).l sc z | _ => false, noSL⟩
  | .for_ tg it b => ⟨fun sc s => match s with | .For t x y [] _ => ckT N sc tg t && tgOk it.tupIt t && (ck T N it).e sc x && (ckS T N b).l sc y | _ => false, noSL⟩
  | .wh c b => ⟨fun sc s => match s with | .While x y [] _ => (ck T N c).e sc x && (ckS T N b).l sc y | _ => false, noSL⟩
  | .brk => ⟨fun sc s => match s with | .Break _ => true | _ => false, noSL⟩
  | .cnt => ⟨fun sc s => match s with | .Continue _ => true | _ => false, noSL⟩
  | .pass => ⟨fun sc s => match s with | .Pass _ => true | .Expr (.Constant (.str _) _ _) _ => true | _ => false, noSL⟩
end Nv

set_option Elab.async false
set_option linter.all false
set_option maxRecDepth 100000
set_option autoImplicit false
set_option maxHeartbeats 1000000
/-! NvEx: expressions keep what the interpreter says of them. -/
namespace Nv
open PySem PySem.Spec PyProof.Rows L2

abbrev W0 : Wx := fun _ _ _ => False
/-- the turns of a walk: what comes, one item after another -/
def ItOk (K : PySem.W.Frag) (ρ : List Addr) (H : Hp) (its : Nv.Its) (J : It) : Prop :=
  ∀ (ρ1 : List Addr) (H1 : Hp) (s1 : Sto), Ext K ρ H ρ1 H1 → RS K ρ1 H1 s1 → srcOk its.src s1 → ∀ i,
    (∀ d, its.ds[i]? = some d → J.go i H1 ∧ ∀ x H2, J.yld i H1 x H2 → Ext K ρ1 H1 ρ1 H2 ∧ RS K ρ1 H2 s1 ∧ RV K ρ1 H2 d x) ∧ (its.ds.length = i → J.stop i H1)
abbrev rIt (K : PySem.W.Frag) : Hp → List Addr → Hp → Nv.Its → It → Prop := fun _ ρ H its J => ItOk K ρ H its J
theorem bkIt {K : PySem.W.Frag} : Bk K (rIt K) := fun _ _ _ _ _ _ _ _ _ h => h

def tR (K : PySem.W.Frag) (W : Wx) (m : M RD) : TE := fun σ H Q => ∃ ρ l s, RS K ρ H s ∧ RL K ρ H σ l ∧ Post K W (rRR K) ρ H Q (m l s)
def tVv (K : PySem.W.Frag) (W : Wx) (m : M D) : TE := fun σ H Q => ∃ ρ l s, RS K ρ H s ∧ RL K ρ H σ l ∧ Post K W (rRV K) ρ H Q (m l s)
def tBb (K : PySem.W.Frag) (W : Wx) (m : M Bool) : TT := fun σ H Q => ∃ ρ l s, RS K ρ H s ∧ RL K ρ H σ l ∧ Post K W rB ρ H Q (m l s)
def tAa (K : PySem.W.Frag) (W : Wx) (m : M (List D)) : TA := fun σ H Q => ∃ ρ l s, RS K ρ H s ∧ RL K ρ H σ l ∧ Post K W (rRVs K) ρ H Q (m l s)
def tIi (K : PySem.W.Frag) (W : Wx) (m : M Nv.Its) : TI := fun σ H R => ∃ ρ l s, RS K ρ H s ∧ RL K ρ H σ l ∧ Post K W (rIt K) ρ H R (m l s)

section
variable {X : Cx} {e : Expr} {es : List Expr}
theorem pe_wk {t t' : TE} (h : PE X e t) (w : ∀ σ H Q, t' σ H Q → t σ H Q) : PE X e t' := ⟨fun pins s σ H Q I q => h.run pins s σ H Q I (w σ H Q q)⟩
theorem pt_wk {t t' : TT} (h : PT X e t) (w : ∀ σ H Q, t' σ H Q → t σ H Q) : PT X e t' := ⟨fun pins s σ H Q I q => h.run pins s σ H Q I (w σ H Q q)⟩
theorem pw_wk {t t' : TT} (h : PW X e t) (w : ∀ σ H Q, t' σ H Q → t σ H Q) : PW X e t' := ⟨fun wh pins s σ H Q I q => h.run wh pins s σ H Q I (w σ H Q q)⟩
theorem pa_wk {t t' : TA} (h : PA X es t) (w : ∀ σ H Q, t' σ H Q → t σ H Q) : PA X es t' := ⟨fun pos pins s σ H Q I q => h.run pos pins s σ H Q I (w σ H Q q)⟩
theorem pi_wk {tg : Expr} {t t' : TI} (h : PI X tg e t) (w : ∀ σ H Q, t' σ H Q → t σ H Q) : PI X tg e t' := ⟨fun pins s σ H Q I q => h.run pins s σ H Q I (w σ H Q q)⟩
end

/-! ### forms -/
theorem ok_star {e : Expr} (h : okE e = true) (es : List Expr) (env : Env) : starEach (e :: es) env = (false, eval e env) :: starEach es env := by
  cases e <;> first | rfl | cases h
theorem ok_ix {e : Expr} (h : okE e = true) : PlainIx e := by
  intro o i
  cases e <;> first | rfl | cases h
theorem ok_fold {e : Expr} (h : okE e = true) (env : Env) (x : Value) : foldedSetIterable e env x = pure x := by
  cases e <;> first | rfl | cases h
theorem ok_swap {e : Expr} (h : okE e = true) (h2 : isLC e = false) (t : Option Expr) (n : Nat) (env : Env) : swapsWith e t n env = pure false := by
  cases e <;> first | rfl | exact Bool.noConfusion (show false = true from h) | exact Bool.noConfusion (show true = false from h2)
theorem ok_mark {e : Expr} (h : okE e = true) (op : CmpOp) : behindInMarks op e = false := by
  cases e <;> first | rfl | cases h
/-- a test that is its value's truth -/
def plainE : Expr → Bool
  | .UnaryOp .Not _ _ => false
  | .BoolOp .. => false
  | .IfExp .. => false
  | .Compare .. => false
  | _ => true
theorem plain_true {e : Expr} (h : plainE e = true) (env : Env) (whole : Sem Value) : isTrue e env whole = (do let v ← whole; standAt e.pos; holding [v] (truthy v)) := by
  cases e with
  | UnaryOp o x p => cases o <;> first | rfl | cases h
  | BoolOp _ _ _ => cases h
  | IfExp _ _ _ _ => cases h
  | Compare _ _ _ _ => cases h
  | _ => rfl

structure SndE (X : Cx) (W : Wx) (e : Expr) (tu : Bool) (m : Den) : Prop where
  ok : okE e = true
  r : PE X e (tR X.K W m.r)
  b : PT X e (tBb X.K W m.b)
  w : ∀ op xs p, e = .BoolOp op xs p → PW X e (tBb X.K W m.b)
  i : ∀ tg, tgOk tu tg = true → PI X tg e (tIi X.K W m.i)
structure SndA (X : Cx) (W : Wx) (es : List Expr) (m : M (List D)) : Prop where
  a : PA X es (tAa X.K W m)
  pl : ∀ pos, (backTo pos (starEach es X.env)).any (·.1) = false
  hd : ∀ e r, es = e :: r → okE e = true

section
variable {X : Cx} {W : Wx} {e : Expr}
/-- by the result taken up -/
theorem pe_v {m : M RD} (h : PE X e (tR X.K W m)) : PE X e (tVv X.K W fun l s => allocR (m l s)) := by
  refine pe_wk h fun σ H Q ⟨ρ, l, s, rs, rl, hp⟩ => ⟨ρ, l, s, rs, rl, ?_⟩
  have hp : Post X.K W (rRV X.K) ρ H Q (allocR (m l s)) := hp
  cases hm : m l s with
  | no => rw [hm] at hp; exact hp
  | ex x s1 => rw [hm] at hp; exact hp
  | ok a s1 =>
    rw [hm] at hp
    cases a with
    | d x => exact fun ρ1 H1 v e1 rs1 r1 => hp ρ1 H1 v e1 rs1 r1
    | l xs =>
      intro ρ1 H1 v e1 rs1 r1
      obtain ⟨a, vs, rfl, h1, h2, h3, h4⟩ := r1
      refine hp (ρ1 ++ [a]) H1 (.ref a) (e1.up h4) (rs1.up h1 h3 h2) ?_
      show RV _ _ _ _ _
      unfold RV
      exact ⟨a, rfl, by rw [← rs1.len, List.getElem?_append_right (Nat.le_refl _), Nat.sub_self]; rfl⟩
theorem SndE.v {tu : Bool} {m : Den} (h : SndE X W e tu m) : PE X e (tVv X.K W m.v) := pe_v h.r
theorem pt_no : PT X e (tBb X.K W noM) := ⟨fun _ _ _ _ _ _ ⟨_, _, _, _, _, h⟩ => h.elim⟩
theorem pe_no : PE X e (tR X.K W noM) := ⟨fun _ _ _ _ _ _ ⟨_, _, _, _, _, h⟩ => h.elim⟩
theorem pi_no {tg : Expr} : PI X tg e (tIi X.K W noM) := ⟨fun _ _ _ _ _ _ ⟨_, _, _, _, _, h⟩ => h.elim⟩
/-- a walk over a list that stands, a tuple -/
theorem it_list {K : PySem.W.Frag} {ρ : List Addr} {H : Hp} {p : Addr} {xs : List D} {src : Option (Nat × List D)}
    (h : ∀ (ρ1 : List Addr) (H1 : Hp) (s1 : Sto), Ext K ρ H ρ1 H1 → RS K ρ1 H1 s1 → srcOk src s1 → ∃ vs, SqL K H1 p vs ∧ RVs K ρ1 H1 xs vs) : ItOk K ρ H ⟨xs, src⟩ (Itl K p) := by
  intro ρ1 H1 s1 e rs so i
  obtain ⟨vs, h1, h2⟩ := h ρ1 H1 s1 e rs so
  refine ⟨fun d hd => ?_, fun hi => ⟨vs, h1, by rw [h2.length]; exact Nat.le_of_eq hi⟩⟩
  obtain ⟨v, h3, h4⟩ := h2.get hd
  refine ⟨⟨vs, v, h1, h3⟩, fun x H2 ⟨hy, hx⟩ => ?_⟩
  subst hy
  have := hx vs h1
  rw [h3] at this
  cases this
  exact ⟨.refl, rs, h4⟩
theorem it_tup {K : PySem.W.Frag} {ρ : List Addr} {H : Hp} {p : Addr} {xs : List D} {vs : List V} {src : Option (Nat × List D)} (h1 : SqT K H p vs) (h2 : RVs K ρ H xs vs) : ItOk K ρ H ⟨xs, src⟩ (Itt K p) := by
  intro ρ1 H1 s1 e rs so i
  have h1 := e.tup _ _ h1
  have h2 := RVs.mono e _ _ h2
  refine ⟨fun d hd => ?_, fun hi => ⟨vs, h1, by rw [h2.length]; exact Nat.le_of_eq hi⟩⟩
  obtain ⟨v, h3, h4⟩ := h2.get hd
  refine ⟨⟨vs, v, h1, h3⟩, fun x H2 ⟨hy, hx⟩ => ?_⟩
  subst hy
  have := hx vs h1
  rw [h3] at this
  cases this
  exact ⟨.refl, rs, h4⟩
theorem it_str {K : PySem.W.Frag} {ρ : List Addr} {H : Hp} {z : Str} : ItOk K ρ H ⟨signsD z, none⟩ (L2.Its z) := by
  intro ρ1 H1 s1 e rs so i
  refine ⟨fun d hd => ?_, fun hi => ?_⟩
  · have hd' : (z.cps.toList.map fun c => D.str ⟨#[c]⟩)[i]? = some d := hd
    rw [List.getElem?_map] at hd'
    obtain ⟨c, hc, rfl⟩ := Option.map_eq_some_iff.mp hd'
    have hc' : z.cps[i]? = some c := by rw [← Array.getElem?_toList]; exact hc
    refine ⟨(Array.getElem?_eq_some_iff.mp hc').1, fun x H2 ⟨hy, c', h1, h2⟩ => ?_⟩
    subst hy
    rw [hc'] at h1
    cases h1
    exact ⟨.refl, rs, rv_str.mpr h2⟩
  · have : (signsD z).length = z.cps.size := by
      unfold signsD
      rw [List.length_map, Array.length_toList]
    show z.cps.size ≤ i
    rw [← this]
    exact Nat.le_of_eq hi
theorem upTo_length : ∀ (n : Nat) (lo : Int), (upTo lo n).length = n
  | 0, _ => rfl
  | n + 1, lo => by
    show (upTo (lo + 1) n).length + 1 = n + 1
    rw [upTo_length n]
theorem upTo_get : ∀ (n : Nat) (lo : Int) (i : Nat), i < n → (upTo lo n)[i]? = some (.int (lo + i))
  | 0, _, _, h => by omega
  | n + 1, lo, 0, _ => by
    show some (D.int lo) = _
    rw [show lo + ((0 : Nat) : Int) = lo by omega]
  | n + 1, lo, i + 1, h => by
    show (upTo (lo + 1) n)[i]? = _
    rw [upTo_get n (lo + 1) i (by omega)]
    rw [show lo + 1 + (i : Int) = lo + ((i + 1 : Nat) : Int) by omega]
theorem it_range {K : PySem.W.Frag} {ρ : List Addr} {H : Hp} {lo : Int} {n : Nat} : ItOk K ρ H ⟨upTo lo n, none⟩ (Itr lo n) := by
  intro ρ1 H1 s1 e rs so i
  refine ⟨fun d hd => ?_, fun hi => ?_⟩
  · have hlt : i < n := by
      have := (List.getElem?_eq_some_iff.mp hd).1
      rw [upTo_length] at this
      exact this
    rw [show (Nv.Its.mk (upTo lo n) none).ds = upTo lo n from rfl, upTo_get n lo i hlt] at hd
    cases hd
    refine ⟨hlt, fun x H2 ⟨hy, hx⟩ => ?_⟩
    subst hy
    exact ⟨.refl, rs, rv_int.mpr hx⟩
  · have h2 : (upTo lo n).length = i := hi
    rw [upTo_length] at h2
    exact Nat.le_of_eq h2
/-- what stays of a list that a value or a fresh result reads -/
theorem src_list {K : PySem.W.Frag} {ρ : List Addr} {H H0 : Hp} {s : Sto} {a : RD} {x : V} {xs : List D} (rs : RS K ρ H s) (r : RR K H0 ρ H a x) (h : asL s a = some xs) :
    ∃ p, x = .ref p ∧ ∀ (ρ1 : List Addr) (H1 : Hp) (s1 : Sto), Ext K ρ H ρ1 H1 → RS K ρ1 H1 s1 → srcOk (srcR s a) s1 → ∃ vs, SqL K H1 p vs ∧ RVs K ρ1 H1 xs vs := by
  unfold asL at h
  split at h
  · cases h
    obtain ⟨p, vs, e1, e2, e3, e4, _⟩ := r
    exact ⟨p, e1, fun ρ1 H1 s1 e rs1 _ => ⟨vs, SqL.of (e.oth _ _ e2 e4), RVs.mono e _ _ e3⟩⟩
  · cases h
    unfold RR RV at r
    obtain ⟨p, vs, e1, e2, e3⟩ := r
    exact ⟨p, e1, fun ρ1 H1 s1 e rs1 _ => ⟨vs, (e.fzl _ _ e2).sql, RVs.mono e _ _ e3⟩⟩
  · rename_i i
    unfold RR RV at r
    obtain ⟨p, e1, e2⟩ := r
    refine ⟨p, e1, fun ρ1 H1 s1 e rs1 so => ?_⟩
    have so : srcOk (Option.map (fun xs => (i, xs)) (lstAt s i)) s1 := so
    rw [h] at so
    have so' : s1[i]? = some (.lst xs) := so
    obtain ⟨q, vs, h1, h2, h3⟩ := rs1.lstAt so'
    rw [e.pre i p e2] at h1
    cases h1
    exact ⟨vs, SqL.of h2, h3⟩
  · cases h
/-- the walk of a value -/
theorem pi_of {m : M RD} {tg : Expr} (h : PE X e (tR X.K W m)) : PI X tg e (tIi X.K W fun l s => (m l s).bind fun a s1 => ofO (itsR s1 a) s1) := by
  refine ⟨fun pins s σ H R I ⟨ρ, l, st, rs, rl, hp⟩ => ?_⟩
  have hp : Post X.K W (rIt X.K) ρ H R ((m l st).bind fun a s1 => ofO (itsR s1 a) s1) := hp
  cases hm : m l st with
  | no => rw [hm] at hp; exact hp.elim
  | ex x s1 =>
    rw [hm] at hp
    exact (pi_list (tg := tg) h).run pins s σ H R I ⟨ρ, l, st, rs, rl, by rw [hm]; exact hp⟩
  | ok a s1 =>
    rw [hm] at hp
    have hp : Post X.K W (rIt X.K) ρ H R (ofO (itsR s1 a) s1) := hp
    have lst : ∀ xs, asL s1 a = some xs → itsR s1 a = some ⟨xs, srcR s1 a⟩ → wpAny (model X.prog X.w) X.A (eval e X.env) (fun v s1 => wpAny (model X.prog X.w) X.A (pyIter v) (PIE X pins σ tg R) X.xe s1) X.xe s := by
      intro xs h1 h2
      refine (pi_list (tg := tg) h).run pins s σ H R I ⟨ρ, l, st, rs, rl, ?_⟩
      rw [hm]
      intro ρ1 H1 v e1 rs1 r1
      rw [h2] at hp
      obtain ⟨p, rfl, h4⟩ := src_list rs1 r1 h1
      obtain ⟨q, vs, h5, h6, _⟩ := asL_ok rs1 r1 h1
      cases h5
      exact ⟨p, rfl, ⟨vs, h6⟩, hp ρ1 H1 _ e1 rs1 (it_list h4)⟩
    cases a with
    | l xs => exact lst xs rfl rfl
    | d x =>
      cases x with
      | lf xs => exact lst xs rfl rfl
      | obj i =>
        unfold itsR at hp
        simp only at hp
        split at hp
        · rename_i ys ey
          exact lst ys (by show lstAt s1 i = _; unfold lstAt; rw [ey]) (by unfold itsR srcR lstAt; simp only [ey]; rfl)
        · exact hp.elim
      | tup xs =>
        refine (pi_tup (tg := tg) h).run pins s σ H R I ⟨ρ, l, st, rs, rl, ?_⟩
        rw [hm]
        intro ρ1 H1 v e1 rs1 r1
        obtain ⟨p, vs, rfl, h1, h2⟩ := rr_tup r1
        exact ⟨p, rfl, ⟨vs, h1⟩, hp ρ1 H1 _ e1 rs1 (it_tup h1 h2)⟩
      | str z =>
        refine (pi_str (tg := tg) h).run pins s σ H R I ⟨ρ, l, st, rs, rl, ?_⟩
        rw [hm]
        intro ρ1 H1 v e1 rs1 r1
        exact ⟨z, rr_str r1, hp ρ1 H1 _ e1 rs1 it_str⟩
      | non => exact hp.elim
      | bl _ => exact hp.elim
      | int _ => exact hp.elim
theorem pt_of {m : M RD} (hp : plainE e = true) (h : PE X e (tR X.K W m)) : PT X e (tBb X.K W fun l s => (m l s).bind fun a s1 => ofO (truthR s1 a) s1) := by
  refine pt_wk (pt_truth h (plain_true hp X.env)) fun σ H Q ⟨ρ, l, s, rs, rl, h⟩ => ⟨ρ, l, s, rs, rl, ?_⟩
  refine h.bind bkB fun a s1 ρ1 H1 v e1 rs1 r1 h1 => ?_
  cases ht : truthR s1 a with
  | none => rw [ht] at h1; exact h1.elim
  | some t =>
    rw [ht] at h1
    exact ⟨t, truth_ok rs1 r1 ht, h1 ρ1 H1 t .refl rs1 rfl⟩
theorem snd_mkR {m : M RD} (ok : okE e = true) (hp : plainE e = true) (h : PE X e (tR X.K W m)) : SndE X W e false (mkR m) :=
  ⟨ok, h, pt_of hp h, fun op xs p q => (by subst q; cases hp), fun tg _ => pi_of h⟩
theorem snd_mkQ {m : M RD} (ok : okE e = true) (hp : ∀ op xs p, e ≠ .BoolOp op xs p) (h : PE X e (tR X.K W m)) : SndE X W e false (mkQ m) :=
  ⟨ok, h, pt_no, fun op xs p q => absurd q (hp op xs p), fun tg _ => pi_of h⟩
theorem snd_mkB {r : M RD} {b : M Bool} (ok : okE e = true) (h : PE X e (tR X.K W r)) (hb : PT X e (tBb X.K W b)) (w : ∀ op xs p, e = .BoolOp op xs p → PW X e (tBb X.K W b)) : SndE X W e false (mkB r b) :=
  ⟨ok, h, hb, w, fun tg _ => pi_no⟩
theorem snd_mkI {m : M Nv.Its} {tu : Bool} (ok : okE e = true) (hp : ∀ op xs p, e ≠ .BoolOp op xs p) (h : ∀ tg, tgOk tu tg = true → PI X tg e (tIi X.K W m)) : SndE X W e tu (mkI m) :=
  ⟨ok, pe_no, pt_no, fun op xs p q => absurd q (hp op xs p), h⟩
end

/-! ### the contexts -/
/-- a function's promise by the interpreter's run -/
def spOf (K : PySem.W.Frag) (W : Wx) (g : List D → Sto → Res D) : Sp := fun vs H Q _ => ∃ ρ s ds, RS K ρ H s ∧ RVs K ρ H ds vs ∧ Post K W (rRV K) ρ H Q (g ds s)
structure Good (T : Tab) (cf : Nat → List D → Sto → Res D) (k : Nat) (N : List Str) (sc : Scope) (X : Cx) : Prop where
  nm : X.N = N
  nd : N.Nodup
  sc : X.env.scope = sc
  calm : X.calm = true
  room : Room k X.A
  blt : ∀ x : Str, T.blts.contains x = true → X.mg x = none
  con : ∀ (j : Nat) (x : Str) (d : D), T.cons[j]? = some (x, d) → ∃ u v, X.mg x = some u ∧ RelV v u ∧ ∀ ρ H, RV X.K ρ H d v
  fns : ∀ (i : Nat) (F : Fn), T.fns[i]? = some F → ∃ f fd, X.mg F.name = some (.ref f) ∧ PySem.W.keepIn X.K (.ref f) = true ∧ Binds X.K fd F.ps [] ∧ FnOk X.prog X.w X.K X.mg X.base CX0 k f fd F.ps (spOf X.K W0 (cf i))
section
variable {T : Tab} {cf : Nat → List D → Sto → Res D} {k : Nat} {N : List Str} {sc : Scope} {X : Cx}
theorem Good.hu (g : Good T cf k N sc X) : X.A.units + 65 < cLine := by
  have := g.room.un
  omega
theorem vis_of {x : Str} (h : visB sc x = true) : Vis sc x := by
  unfold visB at h
  split at h
  · rename_i q; exact .inl q
  · rename_i q; exact .inr (.inl q)
  · rename_i q; exact .inr (.inr q)
  · cases h
theorem Good.gl (g : Good T cf k N sc X) {x : Str} (h : glB sc x = true) : Gl X x ∧ (x == ("__debug__" : Str)) = false ∧ x ≠ ("__name__" : Str) := by
  unfold glB at h
  simp only [Bool.and_eq_true, decide_eq_true_eq, Bool.not_eq_true'] at h
  refine ⟨?_, h.1.2, fun e => ?_⟩
  · show X.env.scope.names.lookup x = _
    rw [g.sc]; exact h.1.1
  · have := h.2
    rw [e] at this
    simp at this
theorem Good.blk (g : Good T cf k N sc X) (s : Shared) (H : Hp) (scope : Scope) (cl : List (Str × Addr)) (C : Addr) (fp : List Addr) : Good T cf k N (relS scope sc) (X.blk s H scope (compEnvC scope cl C X.env) fp) :=
  ⟨g.nm, g.nd, by show relabel scope X.env = _; rw [← g.sc]; rfl, g.calm, g.room, g.blt, g.con, g.fns⟩
/-- a single argument -/
theorem pa_r {W : Wx} {e : Expr} {m : M RD} (ok : okE e = true) (h : PE X e (tR X.K W m)) : PA X [e] (tCons (tR X.K W m) tNil) := pa_cons h pa_nil (ok_star ok [] X.env)
theorem b1_boot (f : B1) : bootBuiltins (f.name : Str) = some f.val := by cases f <;> decide +kernel
theorem b2_boot (f : B2) : bootBuiltins (f.name : Str) = some f.val := by cases f <;> decide +kernel
theorem ty_boot (t : Ty) : bootBuiltins (t.name : Str) = some (.type t.name) := by cases t <;> decide +kernel
/-- f(e, ..), f a built-in function or type -/
theorem pe_callV {v : Value} {r : List V → Hp → VK → Prop} {x : Str} {e : Expr} {es : List Expr} {t : TA} {p pos : Pos} (hv2 : (∃ id, v = .builtin id) ∨ ∃ n, v = .type n) (hc : CallR X v r) (hg : Gl X x) (hm : X.mg x = none) (hv : bootBuiltins x = some v) (ha : PA X (e :: es) t)
    (hn : x ≠ ("__name__" : Str)) (hdb : (x == ("__debug__" : Str)) = false) (he : starEach (e :: es) X.env = (false, eval e X.env) :: starEach es X.env) (hpl : (backTo pos (starEach es X.env)).any (·.1) = false) :
    PE X (.Call (.Name x p) (e :: es) [] pos) (tCB r t) := by
  rcases hv2 with ⟨id, rfl⟩ | ⟨n, rfl⟩
  · exact pe_callB hc hg hm hv ha hn hdb he hpl
  · exact pe_callTy hc hg hm hv ha hn hdb he hpl
theorem b1_kind (f : B1) : (∃ id, f.val = .builtin id) ∨ ∃ n, f.val = .type n := by cases f <;> first | exact .inl ⟨_, rfl⟩ | exact .inr ⟨_, rfl⟩
theorem b2_kind (f : B2) : (∃ id, f.val = .builtin id) ∨ ∃ n, f.val = .type n := by cases f <;> first | exact .inl ⟨_, rfl⟩ | exact .inr ⟨_, rfl⟩
end
end Nv

set_option Elab.async false
set_option linter.all false
set_option maxRecDepth 100000
set_option autoImplicit false
set_option maxHeartbeats 4000000
/-! NvSet: set(list of texts), set(list of tuples of keys), both by one loop. -/
namespace Nv
open PySem PySem.Spec PyProof.Rows L2

/-- a set as it is made -/
def bare (w : World) : Obj := { cls := .type "set", dict := none, data := .set #[] 0 (.fresh 0 0 (!w.params.followText "set-order")) }
/-- what adding wants and does; Is: the value is the key, St: the set at the address has the rows -/
structure Adds (P : Program) (w : World) {κ : Type} (Is : Heap → κ → Value → Prop) (St : Heap → Addr → List (Value × κ) → Prop) : Prop where
  mono : ∀ {h h' : Heap} {k : κ} {v : Value}, Is h k v → (∀ b o, h.get? b = some o → h'.get? b = some o) → Is h' k v
  stay : ∀ {h h' : Heap} {a : Addr} {L : List (Value × κ)}, St h a L → (∀ o, h.get? a = some o → h'.get? a = some o) → St h' a L
  nil : ∀ {h : Heap} {a : Addr}, h.get? a = some (bare w) → St h a []
  add : ∀ {A : Around} {E : Value → Shared → Prop} {s : Shared} {a : Addr} {L : List (Value × κ)} {v : Value} {k : κ} {Q : Bool → Shared → Prop}, A.units + 60 < cLine → St s.heap a L → (∀ p ∈ L, Is s.heap p.2 p.1) → Is s.heap k v → L.length + 1 < 64 →
    (∀ r h' tk L', s.toks ≤ tk → Heap.SameBut a s.heap h' → St h' a L' → (k ∈ L.map (·.2) → L' = L) → (k ∉ L.map (·.2) → L'.Perm ((v, k) :: L)) → Q r { s with heap := h', toks := tk }) →
    wpAny (model P w) A (setAdd a v) Q E s
/-- the rows that come of the first i items -/
structure From {κ : Type} (ks : List (Value × κ)) (i : Nat) (L : List (Value × κ)) : Prop where
  sub : ∀ p ∈ L, p ∈ ks
  all : ∀ p ∈ ks.take i, p.2 ∈ L.map (·.2)
  nd : (L.map (·.2)).Nodup
  len : L.length ≤ i
section
variable {κ : Type} {ks L L' : List (Value × κ)} {i : Nat} {x : Value × κ}
theorem From.nil : From ks 0 [] := ⟨fun p h => (by cases h), fun p h => (by simp at h), List.nodup_nil, Nat.le_refl _⟩
theorem take_one (h : ks[i]? = some x) : ks.take (i + 1) = ks.take i ++ [x] := by
  rw [List.take_add_one, h]; rfl
theorem From.old (g : From ks i L) (h : ks[i]? = some x) (m : x.2 ∈ L.map (·.2)) : From ks (i + 1) L where
  sub := g.sub
  all := fun p hp => by
    rw [take_one h, List.mem_append, List.mem_singleton] at hp
    rcases hp with hp | hp
    · exact g.all p hp
    · rw [hp]; exact m
  nd := g.nd
  len := Nat.le_succ_of_le g.len
theorem From.one (g : From ks i L) (h : ks[i]? = some x) (m : x.2 ∉ L.map (·.2)) (pm : L'.Perm (x :: L)) : From ks (i + 1) L' where
  sub := fun p hp => by
    rcases List.mem_cons.mp (pm.mem_iff.mp hp) with e | z
    · rw [e]; exact List.mem_of_getElem? h
    · exact g.sub p z
  all := fun p hp => by
    rw [(pm.map (·.2)).mem_iff, List.map_cons]
    rw [take_one h, List.mem_append, List.mem_singleton] at hp
    rcases hp with hp | hp
    · exact .tail _ (g.all p hp)
    · rw [hp]; exact .head _
  nd := (pm.map (·.2)).nodup_iff.mpr (List.nodup_cons.mpr ⟨m, g.nd⟩)
  len := by have := g.len; rw [pm.length_eq, List.length_cons]; omega
end
section
variable {P : Program} {w : World} {A : Around} {E : Value → Shared → Prop} {s : Shared} {κ : Type} {Is : Heap → κ → Value → Prop} {St : Heap → Addr → List (Value × κ) → Prop}
/-- the loop of set.update -/
theorem upd_loop (D : Adds P w Is St) {I : Addr} {fp wr : List Addr} {G : Array GenState → Array GenState → Prop} {n : Nat} {Pv : Nat → Value → Prop} {Wt : Nat → Shared → Prop} {R : Result → Shared → Prop}
    (W : WalksS P w A.in1 I fp wr G n Pv Wt) (S : Addr) (nf : S ∉ fp) (ks : List (Value × κ)) (hn : n = ks.length) (few : ks.length < 64) (hval : ∀ i v, Pv i v → ∃ p, ks[i]? = some p ∧ v = p.1)
    (h0 : Heap) (hk : ∀ p ∈ ks, Is h0 p.2 p.1) (hS0 : h0.get? S = none) (hw0 : ∀ b ∈ wr, h0.get? b = none) (hu : A.in1.units + 60 < cLine) :
    ∀ (m i : Nat) (s : Shared), n - i = m → i ≤ n → Wt i s → (∀ b o, h0.get? b = some o → s.heap.get? b = some o) → (∃ L, St s.heap S L ∧ From ks i L) →
      (∀ s' L, Moved (S :: wr) G s s' → St s'.heap S L → From ks n L → (∀ b o, h0.get? b = some o → s'.heap.get? b = some o) → R (.ok (.ret .none)) s') →
      codeAny (model P w) A (.builtin "set.update.loop" ⟨[.ref S, .ref I], []⟩) R s := by
  have nw : S ∉ wr := fun h => nf (W.sub _ h)
  have up : ∀ b ∈ wr, b ∈ S :: wr := fun b hb => .tail _ hb
  have still : ∀ {u u' : Shared}, Moved wr G u u' → (∀ b o, h0.get? b = some o → u.heap.get? b = some o) → ∀ b o, h0.get? b = some o → u'.heap.get? b = some o := fun hm q b o e =>
    hm.heap b o (fun hb => by rw [hw0 b hb] at e; cases e) (q b o e)
  intro m
  induction m with
  | zero =>
    intro i s hm0 hi hst kp ⟨L, hL, g⟩ hR
    obtain rfl : i = n := by omega
    refine codeAny_builtin F.entry_set_update_loop ?_
    rw [Around.under_plainId F.plain_set_update_loop _]
    show wpAny _ A.in1 (pyNext (.ref I) >>= fun _ => _) _ _ s
    refine wpAny_bind (W.done s _ _ hst fun s' mv => ?_)
    show wpAny _ A.in1 (ret Value.none) _ _ s'
    exact wpAny_pure (hR s' L (mv.mono up) (D.stay hL fun o e => mv.heap S o nw e) g (still mv kp))
  | succ m ih =>
    intro i s hm0 hi hst kp ⟨L, hL, g⟩ hR
    have lt : i < n := by omega
    refine codeAny_builtin F.entry_set_update_loop ?_
    rw [Around.under_plainId F.plain_set_update_loop _]
    show wpAny _ A.in1 (pyNext (.ref I) >>= fun _ => _) _ _ s
    refine wpAny_bind (W.item i s _ _ lt hst fun v s' hP hst' mv => ?_)
    obtain ⟨p, hp, rfl⟩ := hval i v hP
    have kp' := still mv kp
    show wpAny _ A.in1 (holding [p.1] (setAdd S p.1) >>= fun _ => _) _ _ s'
    refine wpAny_bind (wpAny_holding (D.add (k := p.2) hu (D.stay hL fun o e => mv.heap S o nw e) (fun q hq => D.mono (hk q (g.sub q hq)) kp') (D.mono (hk p (List.mem_of_getElem? hp)) kp') (by have := g.len; omega) fun b h' tk L' htk sb hL' c1 c2 => ?_))
    have g' : From ks (i + 1) L' := by
      by_cases c : p.2 ∈ L.map (·.2)
      · rw [c1 c]; exact g.old hp c
      · exact g.one hp c (c2 c)
    have kp2 : ∀ b o, h0.get? b = some o → h'.get? b = some o := fun b o e => (sb.2 b fun z => by rw [z, hS0] at e; cases e).trans (kp' b o e)
    refine wpAny_pure ⟨plainId_quiet F.plain_set_update_loop _, ih (i + 1) _ (by omega) lt (W.frame _ s' _ _ hst' htk fun b hb o e => ?_) kp2 ⟨L', hL', g'⟩ fun s2 L2 mv2 a1 a2 a3 => ?_⟩
    · rw [sb.2 b fun z => nf (by rw [← z]; exact hb)]; exact e
    · refine hR s2 L2 (Moved.trans W.gtrans ((mv.mono up).then_heap htk fun b o hb e => ?_) mv2) a1 a2 a3
      rw [sb.2 b fun z => hb (by rw [z]; exact .head _)]; exact e
/-- set(xs), xs a list -/
theorem call_setA (D : Adds P w Is St) {l : Addr} {its : Array Value} (ks : List (Value × κ)) {Q : Value → Shared → Prop} (hh : A.handled = none) (hl : s.heap.IsList l its) (hit : its.toList = ks.map (·.1))
    (hk : ∀ p ∈ ks, Is s.heap p.2 p.1) (few : ks.length < 64) (hu : A.units + 63 < cLine)
    (h : ∀ (h' : Heap) (tk : Nat) L, St h' s.heap.objs.size L → From ks ks.length L → (∀ b o, s.heap.get? b = some o → h'.get? b = some o) → Q (.ref s.heap.objs.size) { s with heap := h', toks := tk }) :
    wpAny (model P w) A (call (.type "set") [.ref l]) Q E s := by
  have hz : its.size = ks.length := by
    have q := congrArg List.length hit
    rwa [Array.length_toList, List.length_map] at q
  obtain ⟨c, tl, hmro⟩ := F.called_set.mro
  have m1 := F.called_set.made
  have m2 := F.called_set.sub
  refine wpAny_call (codeAny_of_tree ?_)
  show wpAny _ _ (callAny (.type "set") _) _ _ _
  refine wpAny_pure ⟨Code.quiet_builtin _ (by decide +kernel), codeAny_builtin F.entry_type_call ?_⟩
  rw [Around.under_plain (weight_type_call_type "set" [.ref l] []) rfl]
  have m3 := F.called_set.notType
  have m4 := F.called_set.canCreate
  have m5 := F.typeCall_set_1 (.ref l)
  repeat (any_goals (first | assumption | wp_step))
  refine codeAny_mono (code_set_led1 (.ref l) (E := E) (Q₁ := fun u s1 => u = .ref s.heap.objs.size ∧ s1 = { s with heap := s.heap.push (bare w) }) ⟨rfl, rfl⟩) fun r s1 hr => ?_
  cases r with
  | error e => exact hr
  | ok fl =>
    cases fl with
    | ret u =>
      obtain ⟨rfl, rfl⟩ := hr
      have b1 : (s.heap.push (bare w)).get? s.heap.objs.size = some (bare w) := Heap.get?_push_size _ rfl
      have b2 : Shared.TypeIs { s with heap := s.heap.push (bare w) } (.ref s.heap.objs.size) "set" := ⟨_, b1, rfl⟩
      have m6 := F.called_set.init.lookup
      have m7 := F.called_set.init.bind (.ref s.heap.objs.size)
      repeat (any_goals (first | assumption | wp_step))
      refine codeAny_mono (codeAny_call_builtin (R := wants (fun r s2 => r = .none ∧ ∃ h' tk L, s2 = { s with heap := h', toks := tk } ∧ St h' s.heap.objs.size L ∧ From ks ks.length L ∧
          (∀ b o, s.heap.get? b = some o → h'.get? b = some o)) E) F.called_set.init.plain F.entry_set_init (check_set_init_1 b2 ?_)) fun r2 s2 hr2 => ?_
      · obtain ⟨o, ho, hc, n, hd⟩ := hl
        obtain ⟨oc, od, oa, os⟩ := o
        simp only at hc hd
        subst hc; subst hd
        have ho1 : (s.heap.push (bare w)).get? l = some { cls := .type "list", dict := od, data := .seq its n, slots := os } := Heap.get?_push_of_some _ ho
        have n1 := F.sub_list_set
        have n2 := F.sub_list_frozenset
        have n3 : (Value.type "list" == Value.type "dict") = false := by decide
        have hl1 : (s.heap.push (bare w)).IsList l its := ⟨_, ho1, rfl, n, rfl⟩
        unfold Builtin.«set.__init__» noKeywords Builtin.Frozenset.updateFrom
        generalize hPI : pyIter = PI
        wp_walk
        subst hPI
        refine wpAny_pyIter_list hl1 (wpAny_bind (wpAny_runValue ?_))
        have lt : l < s.heap.objs.size := Heap.lt_size ho
        have h3 : A.in1.in1.in1.handled = none := by simp [hh]
        have sz : (s.heap.push (bare w)).objs.size = s.heap.objs.size + 1 := Heap.size_push ..
        have ne : l ≠ (s.heap.push (bare w)).objs.size := by rw [sz]; exact Nat.ne_of_lt (Nat.lt_succ_of_lt lt)
        have nf : s.heap.objs.size ∉ [(s.heap.push (bare w)).objs.size, l] := by
          rw [sz, List.mem_cons, List.mem_singleton, not_or]
          exact ⟨Nat.ne_of_lt (Nat.lt_succ_self _), Nat.ne_of_gt lt⟩
        have hval : ∀ (i : Nat) (v : Value), its[i]? = some v → ∃ p, ks[i]? = some p ∧ v = p.1 := fun i v hv => by
          have q : its.toList[i]? = some v := by rw [Array.getElem?_toList]; exact hv
          rw [hit, List.getElem?_map] at q
          obtain ⟨p, hp, e⟩ := Option.map_eq_some_iff.mp q
          exact ⟨p, hp, e.symm⟩
        have off : ∀ b, s.heap.objs.size ≤ b → s.heap.get? b = none := fun b hb => by
          cases q : s.heap.get? b with
          | none => rfl
          | some o => exact absurd (Nat.lt_of_lt_of_le (Heap.lt_size q) hb) (Nat.lt_irrefl _)
        refine upd_loop D ((Walks.list h3 _ l ne its).toS) s.heap.objs.size nf ks hz few hval s.heap hk (off _ (Nat.le_refl _)) (fun b hb => off b ?_) hu (its.size - 0) 0 _ (by omega) (Nat.zero_le _)
          ⟨⟨_, Heap.get?_push_size _ rfl, rfl, rfl⟩, hl1.push _⟩ (fun b o e => Heap.get?_push_of_some _ (Heap.get?_push_of_some _ e)) ⟨[], D.nil (Heap.get?_push_of_some _ b1), From.nil⟩ fun s' L mv hL g kp => ?_
        · rw [List.mem_singleton.mp hb, sz]; exact Nat.le_succ _
        · obtain ⟨h', g2, d', tk', os'⟩ := s'
          obtain rfl : g2 = s.gens := mv.gens
          obtain rfl : d' = s.drawn := mv.drawn
          obtain rfl : os' = s.os := mv.os
          show wpAny _ _ _ _ _ _
          refine wpAny_pure ?_
          show wpAny _ _ (ret Value.none) _ _ _
          rw [hz] at g
          exact wpAny_pure ⟨rfl, h', tk', L, rfl, hL, g, kp⟩
      · cases r2 with
        | error e => exact hr2
        | ok f2 =>
          cases f2 with
          | ret r =>
            obtain ⟨rfl, h', tk, L, rfl, hL, g, kp⟩ := hr2
            repeat (any_goals (first | assumption | wp_step))
            exact h _ _ _ hL g kp
          | _ => exact hr2.elim
    | _ => exact hr.elim
end
end Nv

set_option Elab.async false
set_option linter.all false
set_option maxRecDepth 100000
set_option autoImplicit false
set_option maxHeartbeats 4000000
/-! NvSetS: set(list of texts), sorted(set of texts). -/
namespace Nv
open PySem PySem.Spec PyProof.Rows L2

theorem perm_of_few {α : Type} [DecidableEq α] : ∀ (l ys : List α), l.Nodup → (∀ x ∈ l, x ∈ ys) → ys.length ≤ l.length → ys.Perm l
  | [], ys, _, _, h => by
    have : ys = [] := List.eq_nil_of_length_eq_zero (by simpa using h)
    rw [this]
  | x :: l, ys, nd, sub, h => by
    obtain ⟨n1, n2⟩ := List.nodup_cons.mp nd
    have hx := sub x (.head _)
    have pm := List.perm_cons_erase hx
    have hl := pm.length_eq
    rw [List.length_cons] at hl h
    refine pm.trans (.cons x (perm_of_few l (ys.erase x) n2 (fun y hy => ?_) (by omega)))
    have h1 := sub y (.tail _ hy)
    have h2 := pm.mem_iff.mp h1
    rcases List.mem_cons.mp h2 with e | z
    · rw [e] at hy; exact absurd hy n1
    · exact z
def TSt (P : Program) (w : World) (h : Heap) (a : Addr) (L : List (Value × Str)) : Prop :=
  ∃ D : Froz.SD, h.get? a = some (Froz.sObj "set" D) ∧ Froz.TxOk P w D (L.map (·.2)) ∧ Ris D.2.2.place.toList ∧ (w.params.followText "set-order" = true ∨ D.2.2.led = true)
def IsS (_ : Heap) (k : Str) (v : Value) : Prop := ∃ t, v = .str k t
section
variable {P : Program} {w : World} {A : Around} {E : Value → Shared → Prop} {s : Shared}
theorem tail_ris {ep : Nat} {es : Array (Int × Value)} {t : SetTable} {wd : Bool} (r : Ris t.place.toList) : Ris (Froz.tailTx ep es t wd).2.2.place.toList := by
  unfold Froz.tailTx
  split
  · exact relayAll_ris _ _ _
  · exact r
theorem tail_led {ep : Nat} {es : Array (Int × Value)} {t : SetTable} {wd : Bool} : (Froz.tailTx ep es t wd).2.2.led = t.led := by
  unfold Froz.tailTx
  split
  · exact relayAll_led _ _ _
  · rfl
theorem tx_ris {h : Int} {v : Value} {D : Froz.SD} (r : Ris D.2.2.place.toList) : Ris (Froz.addTx h v D).2.2.place.toList := by
  have r1 := layNew_ris D.2.2 D.1 h v r
  unfold Froz.addTx
  refine tail_ris ?_
  split <;> exact r1
theorem tx_led {h : Int} {v : Value} {D : Froz.SD} : (Froz.addTx h v D).2.2.led = D.2.2.led := by
  have r1 := layNew_led D.2.2 D.1 h v
  unfold Froz.addTx
  rw [tail_led]
  split <;> exact r1
/-- a text that is in the set -/
theorem add_in {a : Addr} {D : Froz.SD} {l : List Str} {k : Str} {u : Tok} {Q : Bool → Shared → Prop} (ho : s.heap.get? a = some (Froz.sObj "set" D)) (F : Froz.TxOk P w D l) (hk : k ∈ l) (hb : l.length < scanBound) (h : Q false s) :
    wpAny (model P w) A (setAddHashed a (.str k u) (hashStr w k)) Q E s := by
  obtain ⟨es, ep, t⟩ := D
  have d1 : (Froz.sObj "set" (es, ep, t)).data = .set es ep t := rfl
  have d2 : t.fits es.size = true := F.fit
  have d3 : ElemsOf (strKind P w) es.toList := F.el
  have d4 : es.size = l.length := F.sz
  unfold setAddHashed setAddHashedIn
  refine wpAny_holding (wpAny_bind (wpAny_setState_of ho d1 d2 ?_))
  dsimp only
  rw [byScan_of rfl (by omega) d3]
  simp only [↓reduceIte]
  unfold setAddByScan
  refine wpAny_bind (wpAny_bind (wpAny_rule (wpAny_bind (wpAny_setScan_of (knd := strKind P w) (k := k) (Froz.is_str k u) ho d1 d2 d3 ?_))))
  cases q : es.toList.findIdx? (fun e => (strKind P w).is k e.2) with
  | some j => exact wpAny_pure (wpAny_pure h)
  | none =>
    obtain ⟨e, he, z⟩ := (F.mem k).mp hk
    have := List.findIdx?_eq_none_iff.mp q e he
    rw [z] at this
    cases this
theorem addsS : Adds P w IsS (TSt P w) where
  mono := fun h _ => h
  stay := fun ⟨D, h1, h2⟩ k => ⟨D, k _ h1, h2⟩
  nil := fun {h a} ho => ⟨(#[], 0, .fresh 0 0 (!w.params.followText "set-order")), ho, .nil rfl, List.Pairwise.nil, by
    show _ ∨ (!w.params.followText "set-order") = true
    cases w.params.followText "set-order"
    · exact .inr rfl
    · exact .inl rfl⟩
  add := fun {A E s a L v k Q} hu ⟨D, h1, h2, h3, h4⟩ _ ⟨t, e⟩ few h => by
    subst e
    have few2 : (L.map (·.2)).length + 1 < scanBound := by rw [List.length_map]; unfold scanBound; omega
    unfold setAdd
    refine wpAny_holding (wpAny_bind ((strKind P w).pyHash (k := k) (Froz.is_str k t) ?_))
    by_cases c : k ∈ L.map (·.2)
    · refine add_in (s := { s with toks := s.toks + 1 }) h1 h2 c (by omega) ?_
      exact h false s.heap _ L (Nat.le_succ _) (Heap.SameBut.refl a s.heap) ⟨D, h1, h2, h3, h4⟩ (fun _ => rfl) fun z => absurd c z
    · refine Froz.add_x (s := { s with toks := s.toks + 1 }) h1 h2 c few2 ?_
      refine h true _ _ ((.str k t, k) :: L) (Nat.le_succ _) (Heap.SameBut.update ..) ⟨_, Froz.get_upd _ h1 rfl, Froz.add_ok t h2, tx_ris h3, ?_⟩ (fun z => absurd z c) fun _ => .rfl
      rw [tx_led]
      exact h4
/-- the members as values -/
theorem TSt.vals {a : Addr} {L : List (Value × Str)} {h : Heap} (nd : (L.map (·.2)).Nodup) (S : TSt P w h a L) : ∃ (es : Array (Int × Value)) (ep : Nat) (t : SetTable) (ys : List Str), SetAt h a es ep t ∧ (∃ o, h.get? a = some o ∧ o.ExactSet ∧ o.data = .set es ep t) ∧ t.fits es.size = true ∧ Ris t.place.toList ∧
    (w.params.followText "set-order" = true ∨ t.led = true) ∧ PySem.W.EachIs (IsS h) ys (es.toList.map (·.2)) ∧ ys.Perm (L.map (·.2)) := by
  obtain ⟨⟨es, ep, t⟩, h1, h2, h3, h4⟩ := S
  have key : ∀ l : List (Int × Value), ElemsOf (strKind P w) l → ∃ ys : List Str, PySem.W.EachIs (IsS h) ys (l.map (·.2)) ∧ ∀ k, (∃ e ∈ l, (strKind P w).is k e.2 = true) → k ∈ ys := by
    intro l
    induction l with
    | nil => exact fun _ => ⟨[], .nil, fun k ⟨e, he, _⟩ => by cases he⟩
    | cons x l ih =>
      intro hx
      obtain ⟨ys, y1, y2⟩ := ih hx.tail
      obtain ⟨⟨k, k1, _⟩, _⟩ := hx.head
      have hv : ∃ u, x.2 = .str k u := by
        have k2 : Value.isStrOf k x.2 = true := k1
        cases q : x.2 with
        | str y u =>
          rw [q] at k2
          exact ⟨u, by rw [show y = k by simpa [Value.isStrOf] using k2]⟩
        | _ => rw [q] at k2; simp [Value.isStrOf] at k2
      refine ⟨k :: ys, .cons hv y1, fun k' ⟨e, he, z⟩ => ?_⟩
      rcases List.mem_cons.mp he with q | q
      · rw [q] at z
        rw [(strKind P w).inj x.2 k' k z k1]
        exact .head _
      · exact .tail _ (y2 k' ⟨e, q, z⟩)
  obtain ⟨ys, y1, y2⟩ := key es.toList h2.el
  refine ⟨es, ep, t, ys, ⟨_, h1, rfl, rfl⟩, ⟨_, h1, ⟨rfl, rfl, rfl⟩, rfl⟩, h2.fit, h3, h4, y1, perm_of_few _ _ nd (fun k hk => y2 k ((h2.mem k).mp hk)) ?_⟩
  have l1 := y1.length
  have l2 : es.size = (L.map (·.2)).length := h2.sz
  rw [List.length_map] at l1
  have l3 : es.toList.length = es.size := Array.length_toList
  rw [l1, l3, l2]
  exact Nat.le_refl _
theorem pw_sort (l : List Str) : (l.mergeSort leS).Pairwise fun a b => leS a b = true :=
  List.pairwise_mergeSort (le := leS) (fun a b c p q => decide_eq_true (List.le_trans (of_decide_eq_true p) (of_decide_eq_true q))) (fun a b => by
    rcases List.le_total a.cps.toList b.cps.toList with p | p <;> simp [leS, p]) l
theorem each_swap {h : Heap} : ∀ {ys : List Str} {vs : List Value}, PySem.W.EachIs (IsS h) ys vs → PySem.W.EachIs (fun v b => IsS h b v) vs ys
  | _, _, .nil => .nil
  | _, _, .cons r t => .cons r (each_swap t)
theorem each_perm {α β : Type} {R : α → β → Prop} {vs us : List α} (p : us.Perm vs) : ∀ {bs : List β}, PySem.W.EachIs R vs bs → ∃ cs, PySem.W.EachIs R us cs ∧ cs.Perm bs := by
  induction p with
  | nil => intro bs h; exact ⟨bs, h, .rfl⟩
  | @cons x l m _ ih =>
    intro bs h
    cases h with
    | @cons _ b _ bs r t =>
      obtain ⟨cs, h1, h2⟩ := ih t
      exact ⟨b :: cs, .cons r h1, .cons b h2⟩
  | @swap x y l =>
    intro bs h
    cases h with
    | @cons _ b _ _ r t =>
      cases t with
      | @cons _ c _ bs r2 t2 => exact ⟨c :: b :: bs, .cons r2 (.cons r t2), .swap ..⟩
  | @trans l m n _ _ ih1 ih2 =>
    intro bs h
    obtain ⟨cs, h1, h2⟩ := ih2 h
    obtain ⟨ds, h3, h4⟩ := ih1 h1
    exact ⟨ds, h3, h4.trans h2⟩
theorem alike_strs (ys : List Str) : PySem.W.AllAlike (ys.map PyData.str) := PySem.W.AllAlike.of fun _ _ => rfl
theorem sort_strs {a : Addr} {n : Nat} {vs : List Value} {ys : List Str} {Q : Value → Shared → Prop} (ho : s.heap.get? a = some (seqObj "list" vs.toArray n)) (e : PySem.W.EachIs (fun v b => IsS s.heap b v) vs ys) (hl : ys.length ≤ sizeLine) (hu : A.units + 2 < cLine)
    (h : ∀ out : List Value, PySem.W.EachIs (fun v b => IsS s.heap b v) out (ys.mergeSort leS) → Q .none { s with heap := sortedHeap s.heap a vs out.toArray }) : wpAny (model P w) A (call (.builtin "list.sort") [.ref a]) Q E s := by
  refine PySem.W.list_sort_data (enc := PyData.str) ho e (e.mono fun v b ⟨t, q⟩ => ⟨[], by rw [q]; exact .str b t, by simp⟩) (alike_strs ys) (PySem.W.Sortable.others fun b => ⟨fun z => (by cases z), fun _ z => (by cases z)⟩) hl (fun b _ => ?_) fun out _ q => ?_
  · show A.units + 1 + 0 < cLine
    omega
  · rw [PySem.W.dataLe_str] at q
    exact h out q
/-- sorted(set of texts) -/
theorem sorted_setS {a : Addr} {L : List (Value × Str)} {Q : Value → Shared → Prop} (S : TSt P w s.heap a L) (nd : (L.map (·.2)).Nodup) (few : L.length < 64) (hh : A.handled = none) (hu : A.units + 60 < cLine)
    (h : ∀ s' p c (out : List Value), (∀ b o, s.heap.get? b = some o → s'.heap.get? b = some o) → s'.gens = s.gens → s'.os = s.os → s.heap.objs.size ≤ p → s'.heap.get? p = some (seqObj "list" out.toArray c) →
      PySem.W.EachIs (fun v b => ∃ t, v = Value.str b t) out ((L.map (·.2)).mergeSort leS) → Q (.ref p) s') :
    wpAny (model P w) A (call (.builtin "sorted") [.ref a]) Q E s := by
  obtain ⟨es, ep, t, ys, h1, _, h3, h4, h5, h6, h7⟩ := S.vals nd
  have hl := h6.length
  have hl2 := h7.length_eq
  rw [List.length_map] at hl hl2
  have hl3 : es.size < scanBound := by
    rw [← Array.length_toList, ← hl]
    unfold scanBound
    omega
  refine Calls.call_function_entry kind_sorted plain_sorted entry_sorted (args_sorted1 _) ?_
  unfold Builtin.«sorted»
  refine wpAny_bind (m := checkCount "sorted" 1 1 _) (wpAny_pure ?_)
  refine wpAny_bind (collect_set (A := A.in1) hh h1 h3 hl3 h4 h5 fun s1 vs k1 k2 g1 o1 pm => ?_)
  obtain ⟨zs, z1, z2⟩ := each_perm pm (each_swap h6)
  have hz := z1.length
  have hz2 := z2.length_eq
  refine wpAny_bind (wpAny_newList ?_ (by rw [sizeLine_eq]; omega))
  have ho : (s1.heap.push (seqObj "list" vs.toArray 0)).get? s1.heap.objs.size = some (seqObj "list" vs.toArray 0) := Heap.get?_push_size _ rfl
  refine wpAny_bind (wpAny_holding (sort_strs (s := { s1 with heap := s1.heap.push (seqObj "list" vs.toArray 0) }) ho z1 (by rw [sizeLine_eq]; omega) (by show A.units + 1 + 2 < cLine; omega) fun out q => ?_))
  obtain ⟨c, hc⟩ := sortedHeap_at (vs := vs) (out := out.toArray) ho
  refine wpAny_pure ⟨_, rfl, h _ s1.heap.objs.size c out (fun b u e => ?_) g1 o1 k2 hc ?_⟩
  · have q1 := k1 b u e
    have lt := Heap.lt_size q1
    show (sortedHeap (s1.heap.push (seqObj "list" vs.toArray 0)) s1.heap.objs.size vs out.toArray).get? b = some u
    rw [sortedHeap_old (Nat.ne_of_lt lt) (by rw [size_push']; exact Nat.lt_succ_of_lt lt)]
    exact Heap.get?_push_of_some _ q1
  · have e : zs.mergeSort leS = (L.map (·.2)).mergeSort leS := by
      refine List.Perm.eq_of_pairwise (le := fun a b => leS a b = true) (fun a b _ _ p q => ?_) ?_ ?_ ?_
      · have := List.le_antisymm (of_decide_eq_true p) (of_decide_eq_true q)
        cases a; cases b
        simpa using this
      · exact pw_sort _
      · exact pw_sort _
      · exact (List.mergeSort_perm _ _).trans ((z2.trans h7).trans (List.mergeSort_perm _ _).symm)
    rw [← e]
    exact q
end
end Nv

set_option Elab.async false
set_option linter.all false
set_option maxRecDepth 100000
set_option autoImplicit false
set_option maxHeartbeats 4000000
/-! NvSetT: set(list of tuples), the tuples nested to any depth below nine. -/
namespace Nv
open PySem PySem.Spec PyProof.Rows L2
open SetTable (Probe)

/-- what a set asks of its elements, where they are no plain values -/
structure Side (P : Program) (w : World) {κ : Type} [DecidableEq κ] (Is : Heap → κ → Value → Prop) (kh : κ → Int) (dr : κ → Nat) : Prop where
  mono : ∀ {h h' : Heap} {k : κ} {v : Value}, Is h k v → (∀ b o, h.get? b = some o → h'.get? b = some o) → Is h' k v
  addr : ∀ {h : Heap} {k : κ} {v : Value}, Is h k v → ∃ a, v = .ref a
  hash : ∀ {A : Around} {E : Value → Shared → Prop} {s : Shared} {k : κ} {v : Value} {Q : Int → Shared → Prop}, A.units + 60 < cLine → Is s.heap k v → Q (kh k) { s with toks := s.toks + dr k } → wpAny (model P w) A (pyHash v) Q E s
  same : ∀ {A : Around} {E : Value → Shared → Prop} {s : Shared} {x y : κ} {u v : Value} {Q : Bool → Shared → Prop}, A.units + 60 < cLine → Is s.heap x u → Is s.heap y v → Q (decide (x = y)) s → wpAny (model P w) A (eqBool u v) Q E s
  seen : ∀ {A : Around} {E : Value → Shared → Prop} {s : Shared} {k : κ} {v : Value} {ys : List Value} {Q : Bool → Shared → Prop}, Is s.heap k v → (∀ y ∈ ys, ∃ k', Is s.heap k' y) → Q false s → wpAny (model P w) A (searchCouldBeSeen v ys) Q E s
  byv : ∀ {A : Around} {E : Value → Shared → Prop} {s : Shared} {k : κ} {v : Value} {Q : Bool → Shared → Prop}, Is s.heap k v → (∀ b, Q b s) → wpAny (model P w) A (hashByValue 8 v) Q E s
/-- a set's state with its rows -/
structure NS (w : World) {κ : Type} (kh : κ → Int) (h : Heap) (a : Addr) (L : List (Value × κ)) (es : Array (Int × Value)) (ep : Nat) (t : SetTable) : Prop where
  ob : ∃ o, h.get? a = some o ∧ o.ExactSet ∧ o.data = .set es ep t
  rows : es.toList = L.map fun p => (kh p.2, p.1)
  tab : TabOk t (L.map fun p => kh p.2)
  nd : (L.map (·.2)).Nodup
  led : w.params.followText "set-order" = true ∨ t.led = true
  room : L.length * 5 < t.mask * 3
  few : L.length < 64
/-- the k-th step of a hash's way -/
abbrev stp (t : SetTable) (h : Int) (c : Nat) : Probe := nth t.mask (runAt t.mask (SetTable.bits h % (t.mask + 1)) (SetTable.bits h)) c
theorem stp_dummy (t : SetTable) (h : Int) : ∀ c, (stp t h c).dummy = none := by
  have key : ∀ (n : Nat) (p : Probe), p.dummy = none → (nth t.mask p n).dummy = none := by
    intro n
    induction n with
    | zero => exact fun p h => h
    | succ n ih => exact fun p h => ih (adv t.mask p) (by unfold adv; split <;> exact h)
  exact fun c => key c _ rfl
section
variable {P : Program} {w : World} {A : Around} {E : Value → Shared → Prop} {s : Shared} {κ : Type} {kh : κ → Int}
variable {a : Addr} {L : List (Value × κ)} {es : Array (Int × Value)} {ep : Nat} {t : SetTable}
theorem NS.size (R : NS w kh s.heap a L es ep t) : es.size = L.length := by
  have q := congrArg List.length R.rows
  rwa [Array.length_toList, List.length_map] at q
theorem NS.psz (R : NS w kh s.heap a L es ep t) : t.place.size = L.length := by
  have q := R.tab.sz
  rwa [List.length_map] at q
theorem fits_of {n : Nat} (h1 : t.dummies = #[]) (h2 : t.place.size = n) (h3 : n ≤ t.mask) : t.fits n = true := by
  unfold SetTable.fits SetTable.fill
  rw [h1, Bool.and_eq_true, beq_iff_eq, decide_eq_true_eq]
  exact ⟨h2, by show t.place.size + 0 ≤ t.mask; omega⟩
theorem NS.fit (R : NS w kh s.heap a L es ep t) : t.fits es.size = true := by
  have r := R.room
  rw [R.size]
  exact fits_of R.tab.dm R.psz (by omega)
theorem NS.row (R : NS w kh s.heap a L es ep t) {i : Nat} {p : Value × κ} (h : L[i]? = some p) : es[i]? = some (kh p.2, p.1) := by
  rw [← Array.getElem?_toList, R.rows, List.getElem?_map, h]; rfl
theorem no_gave {m : SetTable} (h : MaskOk m.mask) : ¬ m.gaveWay = true := by
  unfold SetTable.gaveWay
  rw [mask_odd h]
  decide
/-- the search, from step c of the way on -/
theorem seek [DecidableEq κ] {Is : Heap → κ → Value → Prop} {dr : κ → Nat} (D : Side P w Is kh dr) (R : NS w kh s.heap a L es ep t) (hk : ∀ p ∈ L, Is s.heap p.2 p.1) {v : Value} {k : κ} (hx : Is s.heap k v) (hu : A.units + 60 < cLine) {K : Nat}
    (k1 : K < 10 * SetTable.turns t.mask) (k2 : way t.mask (kh k) K ∉ t.place.toList) (k3 : ∀ c, c < K → way t.mask (kh k) c ∈ t.place.toList) {Q : SetFound → Shared → Prop}
    (q1 : k ∈ L.map (·.2) → Q (.there none) s) (q2 : k ∉ L.map (·.2) → Q (.free (way t.mask (kh k) K) false) s) :
    ∀ (f c : Nat) (from_ : Option Probe), from_.getD (t.probeStart (kh k)) = stp t (kh k) c → c ≤ K → K - c < f →
      (∀ (i : Nat) p, L[i]? = some p → p.2 = k → ∃ d, c ≤ d ∧ d < K ∧ t.place.toList[i]? = some (way t.mask (kh k) d)) →
      wpAny (model P w) A (setSearchFrom a v (kh k) true f from_) Q E s := by
  intro f
  induction f with
  | zero => exact fun c _ _ _ z => absurd z (Nat.not_lt_zero _)
  | succ f ih =>
    intro c from_ e0 cK lt mine
    obtain ⟨o, ho, _, hd⟩ := R.ob
    have stepE : ∀ q, nth t.mask (stp t (kh k) c) q = stp t (kh k) (c + q) := fun q => (nth_add t.mask c _ q).symm
    have stepJ : ∀ q, (nth t.mask (stp t (kh k) c) q).j = way t.mask (kh k) (c + q) := fun q => congrArg Probe.j (stepE q)
    have back : c + (K - c) = K := by omega
    have at_ : ∀ (i : Nat) p, L[i]? = some p → (es[i]?.map (·.1)).getD 0 = kh p.2 := fun i p hp => by rw [R.row hp]; rfl
    rw [setSearchFrom_succ]
    refine wpAny_bind (wpAny_setState_of ho hd R.fit ?_)
    dsimp only
    refine wp_if_neg (no_gave R.tab.mok) ?_
    try refine wpAny_bind (wpAny_pure ?_)
    rcases go_spec t R.tab.ris R.tab.dm (fun i => (es[i]?.map (·.1)).getD 0) (kh k) (10 * SetTable.turns t.mask) (K - c) _ (stp_dummy t (kh k) c) (by omega) (fun q hq => by rw [stepJ]; exact k3 _ (by omega)) (by rw [stepJ, back]; exact k2) with ⟨q, i, g1, g2, g3, g4, g5⟩ | ⟨g1, g2⟩
    · rw [stepJ] at g2
      have pr : t.probe (fun i => (es[i]?.map (·.1)).getD 0) (kh k) (from_.getD (t.probeStart (kh k))) = some (.candidate (way t.mask (kh k) (c + q)) i (stp t (kh k) (c + (q + 1)))) := by
        rw [e0, ← stepJ, ← stepE]
        exact g5
      rw [pr]
      dsimp only
      have il : i < L.length := by
        have z := (List.getElem?_eq_some_iff.mp g2).1
        rwa [Array.length_toList, R.psz] at z
      obtain ⟨p, hp⟩ : ∃ p, L[i]? = some p := ⟨_, List.getElem?_eq_getElem il⟩
      have pm : p ∈ L := List.mem_of_getElem? hp
      have live : t.slot (way t.mask (kh k) (c + q)) = .live i := slot_live R.tab.ris g2
      have main : wpAny (model P w) A (searchRest a v (kh k) true f es t (way t.mask (kh k) (c + q)) i (stp t (kh k) (c + (q + 1)))) Q E s := by
        unfold searchRest
        rw [R.row hp]
        dsimp only
        refine wpAny_bind (wpAny_holding (D.same hu (hk p pm) hx (wpAny_bind (wpAny_setState_of ho hd R.fit ?_))))
        dsimp only
        by_cases c1 : p.2 = k
        · exact wp_if_pos (by simp [c1]) (wpAny_pure (q1 (List.mem_map.mpr ⟨p, pm, c1⟩)))
        · refine wp_if_neg (by simp [c1]) ?_
          try refine wpAny_bind (wpAny_pure ?_)
          rw [sameMem]
          dsimp only
          simp only [if_true, live, R.row hp]
          obtain ⟨b, hb⟩ := D.addr (hk p pm)
          rw [hb]
          refine wpAny_bind (wpAny_isSame_ref_self (wpAny_bind (wpAny_pure ?_)))
          simp only [if_true]
          refine wp_if_neg (by simp [c1]) (ih (c + (q + 1)) _ rfl (by omega) (by omega) fun i0 p0 h0 e1 => ?_)
          obtain ⟨d, d1, d2, d3⟩ := mine i0 p0 h0 e1
          refine ⟨d, ?_, d2, d3⟩
          -- a row of the key is not behind
          have e2 := (at_ i0 p0 h0).trans (congrArg kh e1)
          rcases Nat.lt_trichotomy d (c + q) with z | z | z
          · exact absurd e2 (g4 (d - c) i0 (by omega) (by rw [stepJ, show c + (d - c) = d by omega]; exact d3))
          · rw [z] at d3
            have l2 := slot_live R.tab.ris d3
            rw [live] at l2
            injection l2 with l2
            rw [← l2, hp] at h0
            cases h0
            exact absurd e1 c1
          · omega
      by_cases l : t.led = true
      · refine wp_if_neg (by simp [l]) ?_
        try refine wpAny_bind (wpAny_pure ?_)
        exact main
      · refine wp_if_pos (by simp [l]) (wpAny_bind (D.seen hx (fun y hy => ?_) (wp_if_neg (by decide) ?_)))
        · obtain ⟨e, he, rfl⟩ := List.mem_map.mp hy
          have m2 : e ∈ es.toList := by
            have : e ∈ es ∧ e.1 = kh k := by simpa using he
            simpa using this.1
          rw [R.rows] at m2
          obtain ⟨p2, m3, rfl⟩ := List.mem_map.mp m2
          exact ⟨p2.2, hk p2 m3⟩
        · try refine wpAny_bind (wpAny_pure ?_)
          exact main
    · rw [stepJ, back] at g2
      have pr : t.probe (fun i => (es[i]?.map (·.1)).getD 0) (kh k) (from_.getD (t.probeStart (kh k))) = some (.empty (way t.mask (kh k) K) none) := by
        rw [e0]
        exact g2
      rw [pr]
      dsimp only
      refine wpAny_pure (q2 fun m => ?_)
      obtain ⟨p0, m0, e1⟩ := List.mem_map.mp m
      obtain ⟨i0, h0⟩ := List.mem_iff_getElem?.mp m0
      obtain ⟨d, d1, d2, d3⟩ := mine i0 p0 h0 e1
      exact g1 (d - c) i0 (by omega) (by rw [stepJ, show c + (d - c) = d by omega]; exact d3) ((at_ i0 p0 h0).trans (congrArg kh e1))
theorem seek_all [DecidableEq κ] {Is : Heap → κ → Value → Prop} {dr : κ → Nat} (D : Side P w Is kh dr) (R : NS w kh s.heap a L es ep t) (hk : ∀ p ∈ L, Is s.heap p.2 p.1) {v : Value} {k : κ} (hx : Is s.heap k v) (hu : A.units + 60 < cLine) {Q : SetFound → Shared → Prop}
    (q1 : k ∈ L.map (·.2) → Q (.there none) s)
    (q2 : ∀ K, k ∉ L.map (·.2) → way t.mask (kh k) K ∉ t.place.toList → (∀ c, c < K → way t.mask (kh k) c ∈ t.place.toList) → Q (.free (way t.mask (kh k) K) false) s) :
    wpAny (model P w) A (setSearch a v (kh k) true) Q E s := by
  have r := R.room
  obtain ⟨K, k1, k2, k3⟩ := R.tab.first (by rw [List.length_map]; omega) (kh k)
  have big : 10 * SetTable.turns t.mask < 100000 := by
    unfold SetTable.turns
    rcases R.tab.mok with e | e | e <;> omega
  unfold setSearch
  refine seek D R hk hx hu k1 k2 k3 q1 (fun hn => q2 K hn k2 k3) 100000 0 none rfl (Nat.zero_le _) (by omega) fun i p hp e => ?_
  have il : i < t.place.toList.length := by
    rw [Array.length_toList, R.psz]
    exact (List.getElem?_eq_some_iff.mp hp).1
  have hj := List.getElem?_eq_getElem il
  obtain ⟨c, c1, c2⟩ := R.tab.before (h := kh k) k2 (by rw [List.getElem?_map, hp, ← e]; rfl) hj
  exact ⟨c, Nat.zero_le _, c1, by rw [hj, c2]⟩
end
end Nv

set_option Elab.async false
set_option linter.all false
set_option maxRecDepth 100000
set_option autoImplicit false
set_option maxHeartbeats 4000000
/-! NvSetU: adding to a set of tuples. -/
namespace Nv
open PySem PySem.Spec PyProof.Rows L2
section
variable {P : Program} {w : World} {A : Around} {E : Value → Shared → Prop} {s : Shared} {κ : Type} {kh : κ → Int}
variable {a : Addr} {L : List (Value × κ)} {es : Array (Int × Value)} {ep : Nat} {t : SetTable}
/-- rows in another order -/
theorem reorder (es : Array (Int × Value)) (order : Array Nat) (h1 : es.toList = L.map fun p => (kh p.2, p.1)) (h2 : order.toList.Perm (List.range L.length)) :
    ∃ M : List (Value × κ), (order.filterMap (es[·]?)).toList = (M.map fun p => (kh p.2, p.1)) ∧ M.Perm L ∧ (M.map fun p => kh p.2) = order.toList.map fun i => (es.map (·.1)).getD i 0 := by
  have row : ∀ i : Nat, es[i]? = (L[i]?).map fun p => (kh p.2, p.1) := fun i => by rw [← Array.getElem?_toList, h1, List.getElem?_map]
  have pick : ∀ l : List Nat, (∀ i ∈ l, i < L.length) → l.filterMap (fun i => es[i]?) = (l.filterMap fun i => L[i]?).map (fun p => (kh p.2, p.1)) ∧ ((l.filterMap fun i => L[i]?).map fun p => kh p.2) = l.map fun i => (es.map (·.1)).getD i 0 := by
    intro l
    induction l with
    | nil => exact fun _ => ⟨rfl, rfl⟩
    | cons i l ih =>
      intro hl
      obtain ⟨e1, e2⟩ := ih fun j hj => hl j (.tail _ hj)
      have li := List.getElem?_eq_getElem (hl i (.head _))
      have ri : es[i]? = some (kh (L[i]'(hl i (.head _))).2, (L[i]'(hl i (.head _))).1) := by rw [row, li]; rfl
      rw [List.filterMap_cons_some ri, List.filterMap_cons_some li, e1]
      refine ⟨rfl, ?_⟩
      rw [List.map_cons, List.map_cons, e2]
      congr 1
      have : (es.map (·.1))[i]? = some (kh (L[i]'(hl i (.head _))).2) := by rw [Array.getElem?_map, ri]; rfl
      rw [Array.getD_eq_getD_getElem?, this]; rfl
  obtain ⟨e1, e2⟩ := pick order.toList fun i hi => List.mem_range.mp (h2.mem_iff.mp hi)
  refine ⟨_, by rw [Array.toList_filterMap]; exact e1, ?_, e2⟩
  have all : ∀ n, n ≤ L.length → (List.range n).filterMap (fun i => L[i]?) = L.take n := by
    intro n
    induction n with
    | zero => exact fun _ => rfl
    | succ n ih =>
      intro hn
      rw [List.range_succ, List.filterMap_append, ih (Nat.le_of_lt hn), List.take_add_one, List.getElem?_eq_getElem hn, List.filterMap_cons_some (List.getElem?_eq_getElem hn)]
      rfl
  have p1 := h2.filterMap fun i => L[i]?
  rwa [all L.length (Nat.le_refl _), List.take_length] at p1
theorem mid_perm {α : Type} (l : List α) (p : Nat) (x : α) : (l.take p ++ x :: l.drop p).Perm (x :: l) := by
  have q : (l.take p ++ x :: l.drop p).Perm (x :: (l.take p ++ l.drop p)) := List.perm_middle
  rwa [List.take_append_drop] at q
/-- the table laid anew -/
theorem relay {o : Obj} (ho : s.heap.get? a = some o) (hex : o.ExactSet) (hd : o.data = .set es ep t) (rows : es.toList = L.map fun p => (kh p.2, p.1)) (psz : t.place.size = L.length) (dm : t.dummies = #[]) (fl : L.length ≤ t.mask)
    (nd : (L.map (·.2)).Nodup) (ld : w.params.followText "set-order" = true ∨ t.led = true) (few : L.length < 64) {want M : Nat} (w1 : SetTable.sizeAbove want - 1 = M) (w2 : MaskOk M) (w3 : SetTable.sizeAbove want ≤ 128) (w4 : L.length * 5 < M * 3) {Q : Unit → Shared → Prop}
    (hQ : ∀ h' L' es' ep' t', Heap.SameBut a s.heap h' → NS w kh h' a L' es' ep' t' → L'.Perm L → Q () { s with heap := h' }) : wpAny (model P w) A (setRelay a want) Q E s := by
  have sz : es.size = L.length := by
    have q := congrArg List.length rows
    rwa [Array.length_toList, List.length_map] at q
  obtain ⟨t2, order, r1, r2, r3, r4, r5, _, r7⟩ := relaid_ok t (hs := es.map (·.1)) (wanted := want) w1 w2 (by rw [Array.size_map, sz]; omega)
  rw [Array.size_map, sz] at r2
  obtain ⟨N, m1, m2, m3⟩ := reorder es order rows r2
  rw [← m3] at r3
  have sz2 : (order.filterMap (es[·]?)).size = L.length := by
    have q := congrArg List.length m1
    rwa [Array.length_toList, List.length_map, m2.length_eq] at q
  rw [setRelay_eq]
  refine wpAny_bind (wpAny_setState_of ho hd (by rw [sz]; exact fits_of dm psz fl) ?_)
  dsimp only
  refine wp_if_neg (by rw [sizeLine_eq]; omega) ?_
  try refine wpAny_bind (wpAny_pure ?_)
  rw [r1]
  dsimp only
  refine wpAny_bind (wp_if_neg (by rw [sz2, sz]; simp) ?_)
  try refine wpAny_bind (wpAny_pure ?_)
  refine wpAny_pure ?_
  dsimp only
  refine wpAny_storeSet_of ho hd (hQ _ N _ (ep + 1) t2 (Heap.SameBut.update ..) ⟨⟨_, store_at ho hd, ⟨hex.1, hex.2.1, hex.2.2⟩, rfl⟩, m1, r3, (m2.map (·.2)).nodup_iff.mpr nd, by rw [r5]; exact ld, by rw [m2.length_eq, r4]; exact w4, by rw [m2.length_eq]; exact few⟩ m2) (by rw [sz2, sizeLine_eq]; omega)
/-- ADDING -/
theorem put_in [DecidableEq κ] {Is : Heap → κ → Value → Prop} {dr : κ → Nat} (D : Side P w Is kh dr) (R : NS w kh s.heap a L es ep t) (hk : ∀ p ∈ L, Is s.heap p.2 p.1) {v : Value} {k : κ} (hx : Is s.heap k v) (hu : A.units + 60 < cLine) (few : L.length + 1 < 64) {Q : Bool → Shared → Prop}
    (hQ : ∀ b h' L' es' ep' t', Heap.SameBut a s.heap h' → NS w kh h' a L' es' ep' t' → (k ∈ L.map (·.2) → L' = L) → (k ∉ L.map (·.2) → L'.Perm ((v, k) :: L)) → Q b { s with heap := h' }) :
    wpAny (model P w) A (setAddHashed a v (kh k)) Q E s := by
  obtain ⟨o, ho, hex, hd⟩ := R.ob
  have sz := R.size
  have rm := R.room
  obtain ⟨va, hva⟩ := D.addr hx
  unfold setAddHashed
  refine wpAny_holding ?_
  rw [show (100000 : Nat) = 99999 + 1 from rfl, setAddHashedIn_succ]
  refine wpAny_bind (wpAny_setState_of ho hd R.fit ?_)
  dsimp only
  refine wp_if_neg (by rw [hva]; simp [byScan, Value.scannable]) ?_
  try refine wpAny_bind (wpAny_pure ?_)
  refine wpAny_bind (seek_all D R hk hx hu (fun m => ?_) fun K m k2 k3 => ?_)
  · exact wpAny_pure (hQ false s.heap L es ep t (Heap.SameBut.refl a s.heap) R (fun _ => rfl) fun z => absurd m z)
  dsimp only
  refine wpAny_bind (wpAny_setState_of ho hd R.fit ?_)
  dsimp only
  obtain ⟨p1, p2, p3, p4, p5, p6, p7, p8, p9⟩ := R.tab.put k2 k3
  generalize hpt : t.put (way t.mask (kh k) K) = pt at p1 p3 p4 p5 p9 ⊢
  obtain ⟨t1, p⟩ := pt
  dsimp only at p1 p3 p4 p5 p9 ⊢
  subst p1
  rw [List.length_map] at p2 p9
  have e1 : (SetTable.insertAt es (SetTable.below t.place (way t.mask (kh k) K)) (kh k, v)).toList = (L.take (SetTable.below t.place (way t.mask (kh k) K)) ++ (v, k) :: L.drop (SetTable.below t.place (way t.mask (kh k) K))).map fun p => (kh p.2, p.1) := by
    rw [SetTable.toList_insertAt, R.rows, List.map_append, List.map_cons, List.map_take, List.map_drop]
  have e2 : (L.take (SetTable.below t.place (way t.mask (kh k) K)) ++ (v, k) :: L.drop (SetTable.below t.place (way t.mask (kh k) K))).map (fun p => kh p.2) = (L.map fun p => kh p.2).take (SetTable.below t.place (way t.mask (kh k) K)) ++ kh k :: (L.map fun p => kh p.2).drop (SetTable.below t.place (way t.mask (kh k) K)) := by
    rw [List.map_append, List.map_cons, List.map_take, List.map_drop]
  rw [← e2] at p3
  have pm := mid_perm L (SetTable.below t.place (way t.mask (kh k) K)) (v, k)
  generalize L.take (SetTable.below t.place (way t.mask (kh k) K)) ++ (v, k) :: L.drop (SetTable.below t.place (way t.mask (kh k) K)) = L1 at e1 p3 pm
  generalize SetTable.insertAt es (SetTable.below t.place (way t.mask (kh k) K)) (kh k, v) = es1 at e1 ⊢
  have len1 : L1.length = L.length + 1 := pm.length_eq
  have nd1 : (L1.map (·.2)).Nodup := (pm.map (·.2)).nodup_iff.mpr (List.nodup_cons.mpr ⟨m, R.nd⟩)
  have sz1 : es1.size = L1.length := by
    have q := congrArg List.length e1
    rwa [Array.length_toList, List.length_map] at q
  have psz1 : t1.place.size = L1.length := by
    have q := p3.sz
    rwa [List.length_map] at q
  have led1 : w.params.followText "set-order" = true ∨ t1.led = true := by rw [p5]; exact R.led
  -- whatever the table's mark becomes
  have rest : ∀ t2 : SetTable, t2.mask = t1.mask → t2.place = t1.place → t2.dummies = t1.dummies → t2.led = t1.led → TabOk t2 (L1.map fun p => kh p.2) →
      wpAny (model P w) A (storeSet a es1 t2 >>= fun _ => if (!false && t2.tooFull) = true then setRelay a (SetTable.grown (es.size + 1)) >>= fun _ => pure true else pure true) Q E s := fun t2 z1 z2 z3 z4 z5 => by
    refine wpAny_bind (wpAny_storeSet_of ho hd ?_ (by rw [sz1, len1, sizeLine_eq]; omega))
    have sb : Heap.SameBut a s.heap (s.heap.update a (Obj.putSet es1 t2)) := Heap.SameBut.update ..
    have ho1 := store_at (es' := es1) (t' := t2) ho hd
    have fill : t2.fill = L.length + 1 := by
      unfold SetTable.fill at p9 ⊢
      rw [z2, z3]
      exact p9
    by_cases full : t2.tooFull = true
    · refine wp_if_pos (by simp [full]) (wpAny_bind ?_)
      have f2 : (L.length + 1) * 5 ≥ t2.mask * 3 := by
        unfold SetTable.tooFull at full
        rwa [decide_eq_true_eq, fill] at full
      rw [sz]
      have go : ∀ M, SetTable.sizeAbove (SetTable.grown (L.length + 1)) - 1 = M → MaskOk M → SetTable.sizeAbove (SetTable.grown (L.length + 1)) ≤ 128 → (L.length + 1) * 5 < M * 3 → L.length + 1 ≤ t2.mask →
          wpAny (model P w) A (setRelay a (SetTable.grown (L.length + 1))) (fun _ s' => wpAny (model P w) A (pure true) Q E s') E { s with heap := s.heap.update a (Obj.putSet es1 t2) } := fun M y1 y2 y3 y4 y5 => by
        refine relay (s := { s with heap := s.heap.update a (Obj.putSet es1 t2) }) ho1 ⟨hex.1, hex.2.1, hex.2.2⟩ rfl e1 (by rw [z2]; exact psz1) z5.dm (by rw [len1]; exact y5) nd1 (by rw [z4]; exact led1) (by rw [len1]; exact few) y1 y2 y3 (by rw [len1]; exact y4) ?_
        exact fun h2 L2 es2 ep2 t3 sb2 R2 pm2 => wpAny_pure (hQ true h2 L2 es2 ep2 t3 (sb.trans sb2) R2 (fun z => absurd z m) fun _ => pm2.trans pm)
      rcases R.tab.mok with q | q | q
      · have l4 : L.length = 4 := by rw [z1, p4, q] at f2; rw [q] at rm; omega
        exact go 31 (by rw [l4, size_20]) (.inr (.inl rfl)) (by rw [l4, size_20]; decide) (by omega) (by rw [z1, p4, q, l4]; decide)
      · have l4 : L.length = 18 := by rw [z1, p4, q] at f2; rw [q] at rm; omega
        exact go 127 (by rw [l4, size_76]) (.inr (.inr rfl)) (by rw [l4, size_76]; decide) (by omega) (by rw [z1, p4, q, l4]; decide)
      · rw [z1, p4, q] at f2
        omega
    · refine wp_if_neg (by simp [full]) (wpAny_pure (hQ true _ L1 es1 (ep + 1) t2 sb ⟨⟨_, ho1, ⟨hex.1, hex.2.1, hex.2.2⟩, rfl⟩, e1, z5, nd1, by rw [z4]; exact led1, ?_, by rw [len1]; exact few⟩ (fun z => absurd z m) fun _ => pm))
      unfold SetTable.tooFull at full
      rw [decide_eq_true_eq, fill] at full
      rw [len1]
      omega
  have off : wpAny (model P w) A (storeSet a es1 { t1 with plain := false } >>= fun _ => if (!false && ({ t1 with plain := false } : SetTable).tooFull) = true then setRelay a (SetTable.grown (es.size + 1)) >>= fun _ => pure true else pure true) Q E s :=
    rest { t1 with plain := false } rfl rfl rfl rfl ⟨p3.ris, p3.dm, p3.sz, p3.mok, p3.bd, p3.reach⟩
  have on := rest t1 rfl rfl rfl rfl p3
  by_cases pl : t1.plain = true
  · first
      | (refine wpAny_bind ?_; refine wp_if_pos pl ?_; refine D.byv hx fun b => ?_)
      | refine wp_if_pos pl (wpAny_bind (D.byv hx fun b => ?_))
    cases b
    · exact off
    · exact on
  · first
      | (refine wpAny_bind ?_; refine wp_if_neg pl (wpAny_pure ?_))
      | refine wp_if_neg pl (wpAny_bind (wpAny_pure ?_))
    exact on
/-- what stands of the set alone -/
def NSt (w : World) {κ : Type} (kh : κ → Int) (h : Heap) (a : Addr) (L : List (Value × κ)) : Prop := ∃ es ep t, NS w kh h a L es ep t
theorem addsT [DecidableEq κ] {Is : Heap → κ → Value → Prop} {dr : κ → Nat} (D : Side P w Is kh dr) : Adds P w Is (NSt w kh) where
  mono := D.mono
  stay := fun ⟨es, ep, t, R⟩ k => by
    obtain ⟨o, ho, r⟩ := R.ob
    exact ⟨es, ep, t, ⟨o, k o ho, r⟩, R.rows, R.tab, R.nd, R.led, R.room, R.few⟩
  nil := fun {h a} ho => ⟨#[], 0, .fresh 0 0 (!w.params.followText "set-order"), {
    ob := ⟨_, ho, ⟨rfl, rfl, rfl⟩, rfl⟩
    rows := rfl
    tab := ⟨List.Pairwise.nil, rfl, rfl, .inl rfl, fun x hx => (by cases hx), fun i h j hi => (by simp at hi)⟩
    nd := List.nodup_nil
    led := by
      show _ ∨ (!w.params.followText "set-order") = true
      cases w.params.followText "set-order"
      · exact .inr rfl
      · exact .inl rfl
    room := by show 0 * 5 < 7 * 3; decide
    few := by show 0 < 64; decide }⟩
  add := fun {A E s a L v k Q} hu ⟨es, ep, t, R⟩ hk hx few h => by
    unfold setAdd
    refine wpAny_holding (wpAny_bind (D.hash hu hx ?_))
    have up : ∀ {k' : κ} {v' : Value}, Is s.heap k' v' → Is ({ s with toks := s.toks + dr k } : Shared).heap k' v' := fun z => z
    exact put_in (s := { s with toks := s.toks + dr k }) D R hk hx hu few fun b h' L' es' ep' t' sb R' c1 c2 => h b h' _ L' (Nat.le_add_right _ _) sb ⟨es', ep', t', R'⟩ c1 c2
end
end Nv

set_option Elab.async false
set_option linter.all false
set_option maxRecDepth 100000
set_option autoImplicit false
set_option maxHeartbeats 4000000
/-! NvSetN: tuples of numbers, texts, truths, None and such tuples, as a set's elements. -/
namespace Nv
open PySem PySem.Spec PyProof.Rows L2

def IsN (h : Heap) (k : NestedKey) (v : Value) : Prop := (∃ a, v = .ref a) ∧ NestedIs h k v ∧ k.depth ≤ 8
section
variable {P : Program} {w : World}
/-- a question whose answer may be any truth; or is no -/
def AnyB (P : Program) (w : World) (f : Sem Bool) (s : Shared) : Prop := ∀ (A : Around) (E : Value → Shared → Prop) (Q : Bool → Shared → Prop), (∀ b, Q b s) → wpAny (model P w) A f Q E s
def NoB (P : Program) (w : World) (f : Sem Bool) (s : Shared) : Prop := ∀ (A : Around) (E : Value → Shared → Prop) (Q : Bool → Shared → Prop), Q false s → wpAny (model P w) A f Q E s
theorem anyB_pure {b : Bool} {s : Shared} : AnyB P w (pure b) s := fun A E Q h => wpAny_pure (h b)
theorem byv_tup {a : Addr} {o : Obj} {vs : Array Value} {m n : Nat} {s : Shared} (ho : s.heap.get? a = some o) (hc : o.cls = .type "tuple") (hd : o.data = .seq vs m) (hq : ∀ v ∈ vs.toList, AnyB P w (hashByValue n v) s) : AnyB P w (hashByValue (n + 1) (.ref a)) s := fun A E Q h => by
  have hT : s.TypeIs (.ref a) "tuple" := ⟨o, ho, hc⟩
  unfold hashByValue
  refine wpAny_bind (wpAny_specialOf hT F.slot_tuple_hash.lookup ?_)
  show wpAny _ _ (seqItems? (.ref a) >>= fun _ => _) _ _ s
  refine wpAny_bind (wpAny_seqItems ho hd (wpAny_bind ?_))
  show wpAny _ _ (forIn vs _ _) _ _ s
  rw [← Array.forIn_toList]
  refine wpAny_forIn_list _ (fun rest r s' => r.1 = none ∧ s' = s ∧ ∀ v ∈ rest, AnyB P w (hashByValue n v) s) _ ?_ ?_ _ _ ⟨rfl, rfl, hq⟩
  · rintro v rest r s' ⟨hr, rfl, hall⟩
    refine wpAny_bind (hall v (.head _) _ _ _ fun b => ?_)
    cases b
    · simp only [Bool.not_false, if_true]
      exact wpAny_pure (wpAny_pure (h false))
    · simp only [Bool.not_true, Bool.false_eq_true, if_false]
      exact wpAny_pure ⟨rfl, rfl, fun u hu => hall u (.tail _ hu)⟩
  · rintro ⟨r1, r2⟩ s' ⟨hr, rfl, _⟩
    simp only at hr
    subst hr
    exact wpAny_pure (h true)
mutual
theorem byv_key : ∀ (k : NestedKey) (v : Value) (n : Nat) (s : Shared), NestedIs s.heap k v → AnyB P w (hashByValue n v) s
  | .none, _, n, s, x => by cases x; cases n <;> exact anyB_pure
  | .num i, _, n, s, x => by cases x <;> cases n <;> exact anyB_pure
  | .text y, _, n, s, x => by cases x; cases n <;> exact anyB_pure
  | .tup ks, _, n, s, x => by
    cases x with
    | tup ho hc hd hk =>
      cases n with
      | zero => exact anyB_pure
      | succ n => exact byv_tup ho hc hd (byv_keys ks _ n s hk)
theorem byv_keys : ∀ (ks : List NestedKey) (vs : List Value) (n : Nat) (s : Shared), NestedAll s.heap ks vs → ∀ v ∈ vs, AnyB P w (hashByValue n v) s
  | [], _, n, s, x, v, hv => by cases x; cases hv
  | k :: ks, _, n, s, x, v, hv => by
    cases x with
    | cons x1 x2 =>
      rcases List.mem_cons.mp hv with e | hv
      · rw [e]; exact byv_key k _ n s x1
      · exact byv_keys ks _ n s x2 v hv
end
theorem ofc_tup {a : Addr} {o : Obj} {vs : Array Value} {m n : Nat} {s : Shared} (ho : s.heap.get? a = some o) (hc : o.cls = .type "tuple") (hd : o.data = .seq vs m) (hq : ∀ v ∈ vs.toList, NoB P w (ofAClassStatement n v) s) : NoB P w (ofAClassStatement (n + 1) (.ref a)) s := fun A E Q h => by
  have hT : s.TypeIs (.ref a) "tuple" := ⟨o, ho, hc⟩
  unfold ofAClassStatement
  refine wpAny_bind (wpAny_typeOf hT ?_)
  dsimp only
  have e : (("tuple" : String) == "tuple") = true := by decide
  simp only [e, if_true, Bool.not_true, Bool.false_eq_true, if_false]
  try refine wpAny_bind (wpAny_pure ?_)
  try simp only [Bool.not_true, Bool.false_eq_true, if_false]
  show wpAny _ _ (seqItems? (.ref a) >>= fun _ => _) _ _ s
  refine wpAny_bind (wpAny_seqItems ho hd ?_)
  dsimp only
  refine wpAny_bind ?_
  show wpAny _ _ (forIn vs _ _) _ _ s
  rw [← Array.forIn_toList]
  refine wpAny_forIn_list _ (fun rest r s' => r.1 = none ∧ s' = s ∧ ∀ v ∈ rest, NoB P w (ofAClassStatement n v) s) _ ?_ ?_ _ _ ⟨rfl, rfl, hq⟩
  · rintro v rest r s' ⟨hr, rfl, hall⟩
    refine wpAny_bind (hall v (.head _) _ _ _ ?_)
    simp only [Bool.false_eq_true, if_false]
    exact wpAny_pure ⟨rfl, rfl, fun u hu => hall u (.tail _ hu)⟩
  · rintro ⟨r1, r2⟩ s' ⟨hr, rfl, _⟩
    simp only at hr
    subst hr
    exact wpAny_pure h
theorem ofc_plain {n : Nat} {s : Shared} {v : Value} (h : ∀ a, v ≠ .ref a) : NoB P w (ofAClassStatement n v) s := fun A E Q q => by
  have : ofAClassStatement n v = pure false := by
    cases v with
    | ref a => exact absurd rfl (h a)
    | _ => cases n <;> rfl
  rw [this]
  exact wpAny_pure q
mutual
theorem ofc_key : ∀ (k : NestedKey) (v : Value) (n : Nat) (s : Shared), NestedIs s.heap k v → k.depth ≤ n → NoB P w (ofAClassStatement n v) s
  | .none, _, n, s, x, _ => by cases x; exact ofc_plain fun a z => (by cases z)
  | .num i, _, n, s, x, _ => by cases x <;> exact ofc_plain fun a z => (by cases z)
  | .text y, _, n, s, x, _ => by cases x; exact ofc_plain fun a z => (by cases z)
  | .tup ks, _, n, s, x, hn => by
    cases x with
    | tup ho hc hd hk =>
      simp only [NestedKey.depth] at hn
      cases n with
      | zero => omega
      | succ n => exact ofc_tup ho hc hd (ofc_keys ks _ n s hk (by omega))
theorem ofc_keys : ∀ (ks : List NestedKey) (vs : List Value) (n : Nat) (s : Shared), NestedAll s.heap ks vs → NestedKey.depthAll ks ≤ n → ∀ v ∈ vs, NoB P w (ofAClassStatement n v) s
  | [], _, n, s, x, _, v, hv => by cases x; cases hv
  | k :: ks, _, n, s, x, hn, v, hv => by
    cases x with
    | cons x1 x2 =>
      simp only [NestedKey.depthAll] at hn
      rcases List.mem_cons.mp hv with e | hv
      · rw [e]; exact ofc_key k _ n s x1 (by omega)
      · exact ofc_keys ks _ n s x2 (by omega) v hv
end
theorem seen_key {A : Around} {E : Value → Shared → Prop} {s : Shared} {k : NestedKey} {v : Value} {ys : List Value} {Q : Bool → Shared → Prop} (hx : IsN s.heap k v) (hy : ∀ y ∈ ys, ∃ k', IsN s.heap k' y) (h : Q false s) : wpAny (model P w) A (searchCouldBeSeen v ys) Q E s := by
  unfold searchCouldBeSeen
  refine wpAny_bind ?_
  refine wpAny_forIn_list _ (fun rest r s' => r.1 = none ∧ s' = s ∧ ∀ y ∈ rest, ∃ k', IsN s.heap k' y) _ ?_ ?_ _ _ ⟨rfl, rfl, hy⟩
  · rintro y rest r s' ⟨hr, rfl, hall⟩
    obtain ⟨k', y1, y2, y3⟩ := hall y (.head _)
    have more : ∀ u ∈ rest, ∃ k', IsN s'.heap k' u := fun u hu => hall u (.tail _ hu)
    obtain ⟨⟨va, rfl⟩, x2, x3⟩ := hx
    obtain ⟨ya, rfl⟩ := y1
    dsimp only
    by_cases c : (va == ya || (carriedByValue (.ref va) && carriedByValue (.ref ya))) = true
    · exact wp_if_pos c (wpAny_pure ⟨rfl, rfl, more⟩)
    · refine wp_if_neg c ?_
      refine wpAny_bind (quiet_key k (.ref va) 8 s' x2 x3 _ _ _ ?_)
      simp only [Bool.not_true, Bool.false_eq_true, if_false]
      refine wpAny_bind (quiet_key k' (.ref ya) 8 s' y2 y3 _ _ _ ?_)
      simp only [Bool.not_true, Bool.false_eq_true, if_false]
      refine wpAny_bind (ofc_key k (.ref va) 8 s' x2 x3 _ _ _ ?_)
      simp only [Bool.false_eq_true, if_false]
      refine wpAny_bind (ofc_key k' (.ref ya) 8 s' y2 y3 _ _ _ ?_)
      simp only [Bool.false_eq_true, if_false]
      exact wpAny_pure ⟨rfl, rfl, more⟩
  · rintro ⟨r1, r2⟩ s' ⟨hr, rfl, _⟩
    simp only at hr
    subst hr
    exact wpAny_pure h
theorem sideN : Side P w IsN (NestedKey.hash w) NestedKey.draws where
  mono := fun ⟨h1, h2, h3⟩ k => ⟨h1, NestedIs.at (fun a o _ _ q _ => k a o q) _ _ h2, h3⟩
  addr := fun h => h.1
  hash := fun {A E s k v Q} hu ⟨_, h2, h3⟩ h => pyHash_key _ _ _ _ _ h2 (by omega) h
  same := fun {A E s x y u v Q} hu ⟨_, h2, h3⟩ ⟨_, g2, g3⟩ h => eqAt_key x y A s _ _ h2 g2 (by omega) _ _ _ _ (by rw [← NestedKey.decide_eq]; exact h)
  seen := seen_key
  byv := fun {A E s k v Q} ⟨_, h2, _⟩ h => byv_key k v 8 s h2 A E Q h
end
end Nv

set_option Elab.async false
set_option linter.all false
set_option maxRecDepth 100000
set_option autoImplicit false
set_option maxHeartbeats 1000000
/-! NvTg: targets of assignments. -/
namespace Nv
open PySem PySem.Spec PyProof.Rows L2
/-- what may be stored in this context -/
def Stores (scw : Scope) (X : Cx) : Prop := ∀ x : Str, locB scw x = true → L2.Loc X.env.scope x ∧ (X.fn x = true ∨ X.env.scope.names.lookup x = some .local)
def tTg (K : PySem.W.Frag) (tg : Tg) : TG := fun v σ H Q => ∃ ρ l s d, RS K ρ H s ∧ RL K ρ H σ l ∧ RV K ρ H d v ∧ ∃ l1, bindT tg d l = some l1 ∧
  ∀ σ' : L2.St, RL K ρ H σ' l1 → (∀ j, j ∉ tg.slots → σ'[j]? = σ[j]?) → σ'.length = σ.length → Q σ' H
def tTgs (K : PySem.W.Frag) (tg : Tg) : TGs := fun vs σ H Q => ∃ ρ l s ds, RS K ρ H s ∧ RL K ρ H σ l ∧ RVs K ρ H ds vs ∧ ∃ l1, bindTs tg ds l = some l1 ∧
  ∀ σ' : L2.St, RL K ρ H σ' l1 → (∀ j, j ∉ tg.slots → σ'[j]? = σ[j]?) → σ'.length = σ.length → Q σ' H
section
variable {X : Cx} {N : List Str} {scw : Scope}
theorem pg_wk {e : Expr} {t t' : TG} (h : PG X e t) (w : ∀ v σ H Q, t' v σ H Q → t v σ H Q) : PG X e t' := ⟨fun pins s σ H v u Q I r q => h.run pins s σ H v u Q I r (w v σ H Q q)⟩
theorem pgs_wk {e : List Expr} {t t' : TGs} (h : PGs X e t) (w : ∀ v σ H Q, t' v σ H Q → t v σ H Q) : PGs X e t' := ⟨fun pins s σ H v u Q I r q => h.run pins s σ H v u Q I r (w v σ H Q q)⟩
theorem RL.set {K : PySem.W.Frag} {ρ : List Addr} {H : Hp} {σ : L2.St} {l : Loc} {i : Nat} {d : D} {v : V} (h : RL K ρ H σ l) (r : RV K ρ H d v) : RL K ρ H (σ.set i (some v)) (l.set i (some d)) := by
  refine ⟨by rw [List.length_set, List.length_set]; exact h.len, fun j x q => ?_⟩
  by_cases hj : i = j
  · subst hj
    have hlt : i < l.length := by
      have := (List.getElem?_eq_some_iff.mp q).1
      rw [List.length_set] at this
      exact this
    rw [List.getElem?_set_self hlt] at q
    cases q
    exact ⟨v, List.getElem?_set_self (by rw [← h.len]; exact hlt), r⟩
  · rw [List.getElem?_set_ne hj] at q
    obtain ⟨w, h1, h2⟩ := h.at_ j x q
    exact ⟨w, by rw [List.getElem?_set_ne hj]; exact h1, h2⟩
theorem ckT_ok {tg : Tg} {e : Expr} (h : ckT N scw tg e = true) : okE e = true := by
  cases e <;> first | rfl | (cases tg <;> exact Bool.noConfusion (show false = true from h))
theorem assignEach_ok {e : Expr} (h : okE e = true) (es : List Expr) (env : Env) : assignEach (e :: es) env = (false, assign e env) :: assignEach es env := by
  cases e <;> first | rfl | cases h
theorem ckTs_cons {tg : Tg} {e : Expr} {es : List Expr} (h : ckTs N scw tg (e :: es) = true) : ∃ a b, tg = .c a b ∧ ckT N scw a e = true ∧ ckTs N scw b es = true := by
  cases tg with
  | c a b =>
    have h' : (ckT N scw a e && ckTs N scw b es) = true := by simpa [ckTs] using h
    rw [Bool.and_eq_true] at h'
    exact ⟨a, b, rfl, h'.1, h'.2⟩
  | v i => simp [ckTs] at h
  | n => simp [ckTs] at h
theorem ckTs_nil {tg : Tg} (h : ckTs N scw tg [] = true) : tg = .n := by
  cases tg with
  | n => rfl
  | v i => simp [ckTs] at h
  | c a b => simp [ckTs] at h
theorem each_len : ∀ {es : List Expr} {tg : Tg}, ckTs N scw tg es = true → (assignEach es X.env).length = es.length ∧ (assignEach es X.env).findIdx? (·.1) = none
  | [], tg, h => ⟨rfl, rfl⟩
  | e :: es, tg, h => by
    obtain ⟨a, b, rfl, h1, h2⟩ := ckTs_cons h
    obtain ⟨i1, i2⟩ := each_len h2
    rw [assignEach_ok (ckT_ok h1)]
    refine ⟨by rw [List.length_cons, List.length_cons, i1], ?_⟩
    rw [List.findIdx?_cons]
    simp [i2]
theorem bindTs_len : ∀ {es : List Expr} {tg : Tg} {ds : List D} {l l1 : Loc}, ckTs N scw tg es = true → bindTs tg ds l = some l1 → ds.length = es.length
  | [], tg, ds, l, l1, h, q => by
    cases ckTs_nil h
    cases ds with
    | nil => rfl
    | cons d r => simp [bindTs] at q
  | e :: es, tg, ds, l, l1, h, q => by
    obtain ⟨a, b, rfl, h1, h2⟩ := ckTs_cons h
    cases ds with
    | nil => simp [bindTs] at q
    | cons d r =>
      have q' : (bindT a d l).bind (bindTs b r) = some l1 := by simpa [bindTs] using q
      obtain ⟨l2, _, q2⟩ := bindo q'
      rw [List.length_cons, List.length_cons, bindTs_len h2 q2]
theorem pg_any (nm : X.N = N) (nd : N.Nodup) (hc : X.calm = true) (hs : Stores scw X) : ∀ tg : Tg, (∀ e, ckT N scw tg e = true → PG X e (tTg X.K tg)) ∧ (∀ es, ckTs N scw tg es = true → PGs X es (tTgs X.K tg)) := by
  have tup : ∀ (tg : Tg) (es : List Expr) (kk : Nat) (p : Pos), ckTs N scw tg es = true → PGs X es (tTgs X.K tg) → (∀ d l l1, bindT tg d l = some l1 → ∃ ds, d = .tup ds ∧ bindTs tg ds l = some l1) → PG X (.Tuple es kk p) (tTg X.K tg) := by
    intro tg es kk p h1 h2 h3
    obtain ⟨e1, e2⟩ := each_len (X := X) h1
    refine pg_wk (pg_tup hc h2 e1 e2) fun v σ H Q ⟨ρ, l, s, d, rs, rl, rd, l1, hb, q⟩ => ?_
    obtain ⟨ds, rfl, hb2⟩ := h3 d l l1 hb
    obtain ⟨a, vs, rfl, g1, g2⟩ := rv_tup.mp rd
    exact ⟨a, vs, rfl, g1, by rw [g2.length, bindTs_len h1 hb2], ρ, l, s, ds, rs, rl, g2, l1, hb2, q⟩
  intro tg
  induction tg with
  | v i =>
    refine ⟨fun e h => ?_, fun es h => ?_⟩
    · cases e with
      | Name x p =>
        have h' : (decide (N[i]? = some x) && locB scw x) = true := by simpa [ckT] using h
        rw [Bool.and_eq_true, decide_eq_true_eq] at h'
        obtain ⟨l1, l2⟩ := hs x h'.2
        refine pg_wk (pg_name (i := i) (by rw [nm]; exact nd) (by rw [nm]; exact h'.1) l1 l2) fun v σ H Q ⟨ρ, l, s, d, rs, rl, rd, l1, hb, q⟩ => ?_
        have hb' : (if i < l.length then some (l.set i (some d)) else none) = some l1 := by simpa [bindT] using hb
        split at hb'
        · cases hb'
          refine q _ (rl.set rd) (fun j hj => ?_) (by rw [List.length_set])
          have : i ≠ j := fun z => hj (by rw [z]; simp [Tg.slots])
          rw [List.getElem?_set_ne this]
        · cases hb'
      | _ => simp [ckT] at h
    · cases es with
      | nil => simp [ckTs] at h
      | cons e r => simp [ckTs] at h
  | n =>
    have snd : ∀ es, ckTs N scw .n es = true → PGs X es (tTgs X.K .n) := fun es h => by
      cases es with
      | cons e r => simp [ckTs] at h
      | nil =>
        refine pgs_wk pgs_nil fun vs σ H Q ⟨ρ, l, s, ds, rs, rl, rd, l1, hb, q⟩ => ?_
        cases ds with
        | cons d r => simp [bindTs] at hb
        | nil =>
          unfold RVs at rd
          have e : l = l1 := by simpa [bindTs] using hb
          subst e
          exact ⟨rd, q σ rl (fun _ _ => rfl) rfl⟩
    refine ⟨fun e h => ?_, snd⟩
    cases e with
    | Tuple es kk p =>
      have h' : ckTs N scw .n es = true := by simpa [ckT] using h
      refine tup .n es kk p h' (snd es h') fun d l l1 q => ?_
      cases d with
      | tup ds => exact ⟨ds, rfl, by simpa [bindT] using q⟩
      | _ => simp [bindT] at q
    | _ => simp [ckT] at h
  | c a b iha ihb =>
    have snd : ∀ es, ckTs N scw (.c a b) es = true → PGs X es (tTgs X.K (.c a b)) := fun es h => by
      cases es with
      | nil => simp [ckTs] at h
      | cons e r =>
        obtain ⟨a', b', e0, h1, h2⟩ := ckTs_cons h
        cases e0
        refine pgs_wk (pgs_cons (iha.1 e h1) (ihb.2 r h2) (by rw [assignEach_ok (ckT_ok h1)]; rfl)) fun vs σ H Q ⟨ρ, l, s, ds, rs, rl, rd, l1, hb, q⟩ => ?_
        cases ds with
        | nil => simp [bindTs] at hb
        | cons d r =>
          have q' : (bindT a d l).bind (bindTs b r) = some l1 := by simpa [bindTs] using hb
          obtain ⟨l2, q1, q2⟩ := bindo q'
          unfold RVs at rd
          obtain ⟨v, vr, rfl, rd1, rd2⟩ := rd
          refine ⟨v, vr, rfl, ρ, l, s, d, rs, rl, rd1, l2, q1, fun σ1 rl1 k1 n1 => ?_⟩
          refine ⟨ρ, l2, s, r, rs, rl1, rd2, l1, q2, fun σ2 rl2 k2 n2 => ?_⟩
          refine q σ2 rl2 (fun j hj => ?_) (n2.trans n1)
          have hj' : j ∉ a.slots ∧ j ∉ b.slots := by
            constructor
            · intro z; exact hj (by simp [Tg.slots, z])
            · intro z; exact hj (by simp [Tg.slots, z])
          rw [k2 j hj'.2, k1 j hj'.1]
    refine ⟨fun e h => ?_, snd⟩
    cases e with
    | Tuple es kk p =>
      have h' : ckTs N scw (.c a b) es = true := by simpa [ckT] using h
      refine tup (.c a b) es kk p h' (snd es h') fun d l l1 q => ?_
      cases d with
      | tup ds => exact ⟨ds, rfl, by simpa [bindT] using q⟩
      | _ => simp [bindT] at q
    | _ => simp [ckT] at h
end
end Nv

set_option Elab.async false
set_option linter.all false
set_option maxRecDepth 100000
set_option autoImplicit false
set_option maxHeartbeats 4000000
/-! NvSnd: each expression of the text keeps what the interpreter says of its term. -/
namespace Nv
open PySem PySem.Spec PyProof.Rows L2 RT RZ
section
variable {T : Tab} {cf : Nat → List D → Sto → Res D} {k : Nat} {N : List Str}
def SE (T : Tab) (cf : Nat → List D → Sto → Res D) (k : Nat) (N : List Str) (t : Ex) : Prop :=
  ∀ (X : Cx) (sc : Scope) (e : Expr), Good T cf k N sc X → (ck T N t).e sc e = true → SndE X W0 e t.tupIt (den cf T.gc t)
def SA (T : Tab) (cf : Nat → List D → Sto → Res D) (k : Nat) (N : List Str) (t : Ex) : Prop :=
  ∀ (X : Cx) (sc : Scope) (es : List Expr), Good T cf k N sc X → (ck T N t).l sc es = true → SndA X W0 es (den cf T.gc t).vs
theorem post_ite {α β : Type} {K : PySem.W.Frag} {W : Wx} {R : Hp → List Addr → Hp → α → β → Prop} {ρ : List Addr} {H : Hp} {Q : β → Hp → Prop} {c : Prop} {inst : Decidable c} {r : Res α} (h : Post K W R ρ H Q (if c then r else .no)) : c ∧ Post K W R ρ H Q r := by
  split at h
  · rename_i hc; exact ⟨hc, h⟩
  · exact h.elim
theorem and2 {a b : Bool} (h : (a && b) = true) : a = true ∧ b = true := by rwa [Bool.and_eq_true] at h
/-! leaves -/
theorem s_var (i : Nat) : SE T cf k N (.var i) := by
  intro X sc e g h
  simp only [ck] at h
  split at h
  · rename_i x p
    obtain ⟨h, h4⟩ := and2 h
    obtain ⟨h, h3⟩ := and2 h
    obtain ⟨h1, h2⟩ := and2 h
    refine snd_mkR rfl rfl (pe_wk (pe_var (i := i) (by rw [g.nm]; exact of_decide_eq_true h1) (by rw [g.sc]; exact vis_of h2) (by simpa using h3) (by simpa using h4)) fun σ H Q ⟨ρ, l, s, rs, rl, hp⟩ => ?_)
    have hp : Post X.K W0 (rRR X.K) ρ H Q (match l[i]? with | some (some d) => .ok (.d d) s | _ => .no) := hp
    split at hp
    · rename_i d hd
      obtain ⟨v, h5, h6⟩ := rl.at_ i d hd
      exact ⟨v, h5, post_val rs hp h6⟩
    · exact hp.elim
  · cases h
theorem s_int (z : Int) : SE T cf k N (.int z) := by
  intro X sc e g h
  simp only [ck] at h
  split at h
  · cases of_decide_eq_true h
    exact snd_mkR rfl rfl (pe_wk pe_int fun σ H Q ⟨ρ, l, s, rs, rl, hp⟩ => post_val rs hp (rv_int.mpr rfl))
  · cases h
theorem s_str (z : Str) : SE T cf k N (.str z) := by
  intro X sc e g h
  simp only [ck] at h
  split at h
  · cases of_decide_eq_true h
    exact snd_mkR rfl rfl (pe_wk pe_str fun σ H Q ⟨ρ, l, s, rs, rl, hp⟩ => post_val rs hp (rv_str.mpr rfl))
  · cases h
theorem s_bl (z : Bool) : SE T cf k N (.bl z) := by
  intro X sc e g h
  simp only [ck] at h
  split at h
  · cases of_decide_eq_true h
    exact snd_mkR rfl rfl (pe_wk pe_bl fun σ H Q ⟨ρ, l, s, rs, rl, hp⟩ => post_val rs hp (rv_bl.mpr rfl))
  · cases h
theorem s_non : SE T cf k N .non := by
  intro X sc e g h
  simp only [ck] at h
  split at h
  · exact snd_mkR rfl rfl (pe_wk pe_non fun σ H Q ⟨ρ, l, s, rs, rl, hp⟩ => post_val rs hp (rv_non.mpr rfl))
  · cases h
theorem s_gc (j : Nat) : SE T cf k N (.gc j) := by
  intro X sc e g h
  simp only [ck] at h
  split at h
  · rename_i x p
    obtain ⟨h1, h2⟩ := and2 h
    obtain ⟨g1, g2, _⟩ := g.gl h2
    obtain ⟨⟨y, d⟩, h3, h4⟩ := Option.map_eq_some_iff.mp (of_decide_eq_true h1)
    have h4 : y = x := h4
    subst h4
    obtain ⟨u, v, h5, h6, h7⟩ := g.con j y d h3
    refine snd_mkR rfl rfl (pe_wk (pe_glob g1 h5 h6 g2) fun σ H Q ⟨ρ, l, s, rs, rl, hp⟩ => ?_)
    have hp : Post X.K W0 (rRR X.K) ρ H Q (ofO ((T.gc j).map .d) s) := hp
    have e : T.gc j = some d := by unfold Tab.gc; rw [h3]; rfl
    rw [e] at hp
    exact post_val rs hp (h7 ρ H)
  · cases h
/-! lists of expressions -/
theorem s_nil : SA T cf k N .nil := by
  intro X sc es g h
  simp only [ck] at h
  split at h
  · refine ⟨pa_wk pa_nil fun σ H Q ⟨ρ, l, s, rs, rl, hp⟩ => ?_, fun _ => rfl, fun e r q => by cases q⟩
    have hp : Post X.K W0 (rRVs X.K) ρ H Q (.ok [] s) := hp
    exact hp ρ H [] .refl rs .nil_
  · cases h
theorem s_cons {a b : Ex} (ha : SE T cf k N a) (hb : SA T cf k N b) : SA T cf k N (.cons a b) := by
  intro X sc es g h
  simp only [ck] at h
  split at h
  · rename_i e r
    obtain ⟨h1, h2⟩ := and2 h
    have sa := ha X sc e g h1
    have sb := hb X sc r g h2
    refine ⟨pa_wk (pa_cons sa.v sb.a (ok_star sa.ok r X.env)) fun σ H Q ⟨ρ, l, s, rs, rl, hp⟩ => ?_, fun pos => ?_, fun e' r' q => by cases q; exact sa.ok⟩
    · have hp : Post X.K W0 (rRVs X.K) ρ H Q (((den cf T.gc a).v l s).bind fun x s1 => ((den cf T.gc b).vs l s1).bind fun xs s2 => .ok (x :: xs) s2) := hp
      refine ⟨ρ, l, s, rs, rl, hp.bind bkRVs fun x s1 ρ1 H1 v1 e1 rs1 r1 h1 => ⟨ρ1, l, s1, rs1, rl.mono e1, h1.bind bkRVs fun xs s2 ρ2 H2 v2 e2 rs2 r2 h2 => ?_⟩⟩
      exact h2 ρ2 H2 _ .refl rs2 (.cons_ (RV.mono e2 _ _ r1) r2)
    · rw [ok_star sa.ok r X.env]
      show (false || (backTo pos (starEach r X.env)).any (·.1)) = false
      rw [sb.pl pos]
      rfl
  · cases h
theorem s_tup {a : Ex} (ha : SA T cf k N a) : SE T cf k N (.tup a) := by
  intro X sc e g h
  simp only [ck] at h
  split at h
  · rename_i xs kk p
    have sa := ha X sc xs g h
    refine snd_mkR rfl rfl (pe_wk (pe_tup sa.a) fun σ H Q ⟨ρ, l, s, rs, rl, hp⟩ => ?_)
    have hp : Post X.K W0 (rRR X.K) ρ H Q (((den cf T.gc a).vs l s).bind fun xs s1 => if xs.length ≤ sizeLine then .ok (.d (.tup xs)) s1 else .no) := hp
    refine ⟨ρ, l, s, rs, rl, hp.bind bkRR fun ds s1 ρ1 H1 vs e1 rs1 r1 h1 => ?_⟩
    obtain ⟨c, h2⟩ := post_ite h1
    exact ⟨by rw [r1.length]; exact c, fun q hq => post_tup rs1 r1 h2 hq⟩
  · cases h
theorem s_lst {a : Ex} (ha : SA T cf k N a) : SE T cf k N (.lst a) := by
  intro X sc e g h
  simp only [ck] at h
  split at h
  · rename_i xs p
    have sa := ha X sc xs g h
    refine snd_mkR rfl rfl (pe_wk (pe_lst sa.a) fun σ H Q ⟨ρ, l, s, rs, rl, hp⟩ => ?_)
    have hp : Post X.K W0 (rRR X.K) ρ H Q (((den cf T.gc a).vs l s).bind fun xs s1 => if xs.length ≤ sizeLine then .ok (.l xs) s1 else .no) := hp
    refine ⟨ρ, l, s, rs, rl, hp.bind bkRR fun ds s1 ρ1 H1 vs e1 rs1 r1 h1 => ?_⟩
    obtain ⟨c, h2⟩ := post_ite h1
    exact ⟨by rw [r1.length]; exact c, fun q hq => post_laid rs1 r1 h2 hq⟩
  · cases h
/-! operators -/
theorem s_bin {o : Bop} {a b : Ex} (ha : SE T cf k N a) (hb : SE T cf k N b) : SE T cf k N (.bin o a b) := by
  intro X sc e g h
  simp only [ck] at h
  split at h
  · rename_i x op y p
    obtain ⟨h, h3⟩ := and2 h
    obtain ⟨h1, h2⟩ := and2 h
    cases of_decide_eq_true h1
    have sa := ha X sc x g h2
    have sb := hb X sc y g h3
    refine snd_mkR rfl rfl (pe_wk (pe_op (op_bin (W := W0) o) sa.r sb.r) fun σ H Q ⟨ρ, l, s, rs, rl, hp⟩ => ?_)
    exact ⟨ρ, l, s, rs, rl, Post.bind bkRR hp fun x s1 ρ1 H1 v1 e1 rs1 r1 h1 => ⟨ρ1, l, s1, rs1, rl.mono e1, Post.bind bkRR h1 fun y s2 ρ2 H2 v2 e2 rs2 r2 h2 => ⟨H, H1, ρ2, s2, x, y, rs2, RR.mono e2 r1, r2, h2⟩⟩⟩
  · cases h
theorem s_neg {a : Ex} (ha : SE T cf k N a) : SE T cf k N (.neg a) := by
  intro X sc e g h
  simp only [ck] at h
  split at h
  · rename_i x p
    have sa := ha X sc x g h
    refine snd_mkR rfl rfl (pe_wk (pe_un un_neg sa.r) fun σ H Q ⟨ρ, l, s, rs, rl, hp⟩ => ?_)
    refine ⟨ρ, l, s, rs, rl, Post.bind bkRR hp fun x s1 ρ1 H1 v1 e1 rs1 r1 h1 => ?_⟩
    split at h1
    · exact ⟨_, rr_int r1, post_val rs1 h1 (rv_int.mpr rfl)⟩
    · exact h1.elim
  · cases h
theorem s_nt {a : Ex} (ha : SE T cf k N a) : SE T cf k N (.nt a) := by
  intro X sc e g h
  simp only [ck] at h
  split at h
  · rename_i x p
    have sa := ha X sc x g h
    refine snd_mkB rfl (pe_wk (pe_not sa.r) fun σ H Q ⟨ρ, l, s, rs, rl, hp⟩ => ?_) (pt_wk (pt_not sa.b) fun σ H Q ⟨ρ, l, s, rs, rl, hp⟩ => ?_) fun op xs p q => by cases q
    · refine ⟨ρ, l, s, rs, rl, Post.bind bkRR hp fun x s1 ρ1 H1 v1 e1 rs1 r1 h1 => ?_⟩
      split at h1
      · exact ⟨_, rr_bl r1, post_val rs1 h1 (rv_bl.mpr rfl)⟩
      · exact h1.elim
    · exact ⟨ρ, l, s, rs, rl, Post.bind bkB hp fun x s1 ρ1 H1 v1 e1 rs1 r1 h1 => by cases r1; exact h1 ρ1 H1 _ .refl rs1 rfl⟩
  · cases h
theorem s_cmp {o : Cop} {a b : Ex} (ha : SE T cf k N a) (hb : SE T cf k N b) : SE T cf k N (.cmp o a b) := by
  intro X sc e g h
  simp only [ck] at h
  split at h
  · rename_i x op y p
    obtain ⟨h, h3⟩ := and2 h
    obtain ⟨h1, h2⟩ := and2 h
    cases of_decide_eq_true h1
    have sa := ha X sc x g h2
    have sb := hb X sc y g h3
    refine snd_mkB rfl (pe_wk (pe_cmpR (op_cmp o g.hu) sa.r sb.r (ok_mark sb.ok _)) fun σ H Q ⟨ρ, l, s, rs, rl, hp⟩ => ?_) (pt_wk (pt_cmpR (op_cmp o g.hu) sa.r sb.r (ok_mark sb.ok _)) fun σ H Q ⟨ρ, l, s, rs, rl, hp⟩ => ?_) fun op xs p q => by cases q
    · refine ⟨ρ, l, s, rs, rl, Post.bind bkRR hp fun x s1 ρ1 H1 v1 e1 rs1 r1 h1 => ⟨ρ1, l, s1, rs1, rl.mono e1, Post.bind bkRR h1 fun y s2 ρ2 H2 v2 e2 rs2 r2 h2 => ?_⟩⟩
      obtain ⟨d, e3, h3⟩ := post_o h2
      obtain ⟨t, e4, e5⟩ := Option.map_eq_some_iff.mp e3
      cases e5
      exact ⟨H, H1, ρ2, s2, x, y, t, rs2, RR.mono e2 r1, r2, e4, post_val rs2 h3 (rv_bl.mpr rfl)⟩
    · refine ⟨ρ, l, s, rs, rl, Post.bind bkB hp fun x s1 ρ1 H1 v1 e1 rs1 r1 h1 => ⟨ρ1, l, s1, rs1, rl.mono e1, Post.bind bkB h1 fun y s2 ρ2 H2 v2 e2 rs2 r2 h2 => ?_⟩⟩
      cases e4 : cmpR o s2 x y with
      | none => rw [e4] at h2; exact h2.elim
      | some t =>
        rw [e4] at h2
        exact ⟨H, H1, ρ2, s2, x, y, t, rs2, RR.mono e2 r1, r2, e4, t, rfl, h2 ρ2 H2 t .refl rs2 rfl⟩
  · cases h
theorem s_and {a b : Ex} (ha : SE T cf k N a) (hb : SE T cf k N b) : SE T cf k N (.and a b) := by
  have go : ∀ (X : Cx) (x y : Expr) (r : List Expr) (p : Pos), SndE X W0 x a.tupIt (den cf T.gc a) → PE X (.BoolOp .And (y :: r) p) (tR X.K W0 (den cf T.gc b).r) → PW X (.BoolOp .And (y :: r) p) (tBb X.K W0 (den cf T.gc b).b) → SndE X W0 (.BoolOp .And (x :: y :: r) p) false (den cf T.gc (.and a b)) := by
    intro X x y r p sa sr sw
    have wb : PW X (.BoolOp .And (x :: y :: r) p) (tBb X.K W0 (den cf T.gc (.and a b)).b) := pw_wk (pw_and sa.b sw) fun σ H Q ⟨ρ, l, s, rs, rl, hp⟩ => by
      refine ⟨ρ, l, s, rs, rl, Post.bind bkB hp fun t s1 ρ1 H1 v1 e1 rs1 r1 h1 => ?_⟩
      cases r1
      cases t with
      | true => exact iteT ⟨ρ1, l, s1, rs1, rl.mono e1, h1⟩
      | false => exact iteF (h1 ρ1 H1 false .refl rs1 rfl)
    refine snd_mkB rfl (pe_wk (pe_and sa.r sr) fun σ H Q ⟨ρ, l, s, rs, rl, hp⟩ => ?_) wb.pt fun op xs p q => by cases q; exact wb
    refine ⟨ρ, l, s, rs, rl, Post.bind bkRR hp fun t s1 ρ1 H1 v1 e1 rs1 r1 h1 => ?_⟩
    split at h1
    · exact ⟨true, rr_bl r1, iteT ⟨ρ1, l, s1, rs1, rl.mono e1, h1⟩⟩
    · exact ⟨false, rr_bl r1, iteF (post_val rs1 h1 (rv_bl.mpr rfl))⟩
    · exact h1.elim
  intro X sc e g h
  simp only [ck] at h
  split at h
  · rename_i x y p
    obtain ⟨h1, h2⟩ := and2 h
    have sb := hb X sc y g h2
    exact go X x y [] p (ha X sc x g h1) (pe_one sb.r) (pw_and1 sb.b)
  · rename_i x y z r p
    obtain ⟨h1, h2⟩ := and2 h
    have sb := hb X sc _ g h2
    exact go X x y (z :: r) p (ha X sc x g h1) sb.r (sb.w _ _ _ rfl)
  · cases h
theorem s_or {a b : Ex} (ha : SE T cf k N a) (hb : SE T cf k N b) : SE T cf k N (.or a b) := by
  have go : ∀ (X : Cx) (x y : Expr) (r : List Expr) (p : Pos), SndE X W0 x a.tupIt (den cf T.gc a) → PE X (.BoolOp .Or (y :: r) p) (tR X.K W0 (den cf T.gc b).r) → PW X (.BoolOp .Or (y :: r) p) (tBb X.K W0 (den cf T.gc b).b) → SndE X W0 (.BoolOp .Or (x :: y :: r) p) false (den cf T.gc (.or a b)) := by
    intro X x y r p sa sr sw
    have wb : PW X (.BoolOp .Or (x :: y :: r) p) (tBb X.K W0 (den cf T.gc (.or a b)).b) := pw_wk (pw_or sa.b sw) fun σ H Q ⟨ρ, l, s, rs, rl, hp⟩ => by
      refine ⟨ρ, l, s, rs, rl, Post.bind bkB hp fun t s1 ρ1 H1 v1 e1 rs1 r1 h1 => ?_⟩
      cases r1
      cases t with
      | true => exact iteT (h1 ρ1 H1 true .refl rs1 rfl)
      | false => exact iteF ⟨ρ1, l, s1, rs1, rl.mono e1, h1⟩
    refine snd_mkB rfl (pe_wk (pe_or sa.r sr) fun σ H Q ⟨ρ, l, s, rs, rl, hp⟩ => ?_) wb.pt fun op xs p q => by cases q; exact wb
    refine ⟨ρ, l, s, rs, rl, Post.bind bkRR hp fun t s1 ρ1 H1 v1 e1 rs1 r1 h1 => ?_⟩
    split at h1
    · exact ⟨false, rr_bl r1, iteF ⟨ρ1, l, s1, rs1, rl.mono e1, h1⟩⟩
    · exact ⟨true, rr_bl r1, iteT (post_val rs1 h1 (rv_bl.mpr rfl))⟩
    · exact h1.elim
  intro X sc e g h
  simp only [ck] at h
  split at h
  · rename_i x y p
    obtain ⟨h1, h2⟩ := and2 h
    have sb := hb X sc y g h2
    exact go X x y [] p (ha X sc x g h1) (pe_one sb.r) (pw_or1 sb.b)
  · rename_i x y z r p
    obtain ⟨h1, h2⟩ := and2 h
    have sb := hb X sc _ g h2
    exact go X x y (z :: r) p (ha X sc x g h1) sb.r (sb.w _ _ _ rfl)
  · cases h
theorem s_ife {c a b : Ex} (hc : SE T cf k N c) (ha : SE T cf k N a) (hb : SE T cf k N b) : SE T cf k N (.ife c a b) := by
  intro X sc e g h
  simp only [ck] at h
  split at h
  · rename_i z x y p
    obtain ⟨h, h3⟩ := and2 h
    obtain ⟨h1, h2⟩ := and2 h
    refine snd_mkQ rfl (fun _ _ _ q => by cases q) (pe_wk (pe_ifExp (hc X sc z g h1).b (ha X sc x g h2).r (hb X sc y g h3).r) fun σ H Q ⟨ρ, l, s, rs, rl, hp⟩ => ?_)
    refine ⟨ρ, l, s, rs, rl, Post.bind bkRR hp fun t s1 ρ1 H1 v1 e1 rs1 r1 h1 => ?_⟩
    cases r1
    cases t with
    | true => exact iteT ⟨ρ1, l, s1, rs1, rl.mono e1, h1⟩
    | false => exact iteF ⟨ρ1, l, s1, rs1, rl.mono e1, h1⟩
  · cases h
/-! calls -/
theorem ckl_nil {t : Ex} {sc : Scope} (h : (ck T N t).l sc [] = true) : t = .nil := by
  cases t <;> first | rfl | (simp only [ck, noL] at h; exact Bool.noConfusion h)
theorem pl_tail {X : Cx} {e : Expr} {r : List Expr} {m : M (List D)} (sa : SndA X W0 (e :: r) m) (pos : Pos) : (backTo pos (starEach r X.env)).any (·.1) = false := by
  have h := sa.pl pos
  rw [ok_star (sa.hd e r rfl) r X.env] at h
  have h : (false || (backTo pos (starEach r X.env)).any (·.1)) = false := h
  rwa [Bool.false_or] at h
theorem s_call {f : Nat} {es : Ex} (he : SA T cf k N es) : SE T cf k N (.call f es) := by
  intro X sc e g h
  simp only [ck] at h
  split at h
  · rename_i x px xs p
    obtain ⟨h, h3⟩ := and2 h
    obtain ⟨h1, h2⟩ := and2 h
    obtain ⟨g1, g2, _⟩ := g.gl h2
    obtain ⟨F, h4, h5⟩ := Option.map_eq_some_iff.mp (of_decide_eq_true h1)
    obtain ⟨fa, fd, k1, k2, k3, k4⟩ := g.fns f F h4
    rw [h5] at k1
    have sa := he X sc xs g h3
    have fin : ∀ (Q : VK) (ρ : List Addr) (H : Hp) (s : Sto) (ds : List D) (vs : List V), RS X.K ρ H s → RVs X.K ρ H ds vs → Post X.K W0 (rRR X.K) ρ H Q ((cf f ds s).bind fun d s2 => .ok (.d d) s2) → spOf X.K W0 (cf f) (vs ++ []) H Q E0 := by
      intro Q ρ H s ds vs rs rv h
      rw [List.append_nil]
      exact ⟨ρ, s, ds, rs, rv, Post.bind bkRR h fun d s1 ρ1 H1 v1 e1 rs1 r1 h1 => post_val rs1 h1 r1⟩
    have pe : PE X (.Call (.Name x px) xs [] p) (tR X.K W0 (den cf T.gc (.call f es)).r) := by
      cases xs with
      | nil =>
        have q := ckl_nil h3
        subst q
        refine pe_wk (pe_call0 k4 g.room g1 k1 k2 k3 .nil pass0 g2) fun σ H Q ⟨ρ, l, s, rs, rl, hp⟩ => ?_
        exact fin Q ρ H s [] [] rs .nil_ hp
      | cons e r =>
        refine pe_wk (pe_call k4 g.room g1 k1 k2 k3 .nil pass0 sa.a g2 (ok_star (sa.hd e r rfl) r X.env) (pl_tail sa p)) fun σ H Q ⟨ρ, l, s, rs, rl, hp⟩ => ?_
        refine ⟨ρ, l, s, rs, rl, Post.bind bkRR hp fun ds s1 ρ1 H1 vs e1 rs1 r1 h1 => fin Q ρ1 H1 s1 ds vs rs1 r1 h1⟩
    exact snd_mkR rfl rfl pe
  · cases h
theorem s_b1 {f : B1} {a : Ex} (ha : SE T cf k N a) : SE T cf k N (.b1 f a) := by
  intro X sc e g h
  simp only [ck] at h
  split at h
  · rename_i x px y p
    obtain ⟨h, h4⟩ := and2 h
    obtain ⟨h, h3⟩ := and2 h
    obtain ⟨h1, h2⟩ := and2 h
    obtain ⟨g1, g2, g3⟩ := g.gl h2
    have sa := ha X sc y g h4
    have hb := b1_boot f
    rw [← of_decide_eq_true h1] at hb
    refine snd_mkR rfl rfl (pe_wk (pe_callV (b1_kind f) (call_b1 (W := W0) f g.calm) g1 (g.blt x h3) hb (pa_r sa.ok sa.r) g3 g2 (ok_star sa.ok [] X.env) rfl) fun σ H Q ⟨ρ, l, s, rs, rl, hp⟩ => ?_)
    exact ⟨ρ, l, s, rs, rl, Post.bind bkRR hp fun x s1 ρ1 H1 v1 e1 rs1 r1 h1 => ⟨v1, H, ρ1, s1, x, rfl, rs1, r1, h1⟩⟩
  · cases h
theorem s_b2 {f : B2} {a b : Ex} (ha : SE T cf k N a) (hb : SE T cf k N b) : SE T cf k N (.b2 f a b) := by
  intro X sc e g h
  simp only [ck] at h
  split at h
  · rename_i x px y z p
    obtain ⟨h, h5⟩ := and2 h
    obtain ⟨h, h4⟩ := and2 h
    obtain ⟨h, h3⟩ := and2 h
    obtain ⟨h1, h2⟩ := and2 h
    obtain ⟨g1, g2, g3⟩ := g.gl h2
    have sa := ha X sc y g h4
    have sb := hb X sc z g h5
    have hb := b2_boot f
    rw [← of_decide_eq_true h1] at hb
    refine snd_mkR rfl rfl (pe_wk (pe_callV (b2_kind f) (call_b2 (W := W0) f g.calm) g1 (g.blt x h3) hb (pa_cons sa.r (pa_r sb.ok sb.r) (ok_star sa.ok _ X.env)) g3 g2 (ok_star sa.ok _ X.env) (by rw [ok_star sb.ok]; rfl)) fun σ H Q ⟨ρ, l, s, rs, rl, hp⟩ => ?_)
    exact ⟨ρ, l, s, rs, rl, Post.bind bkRR hp fun x s1 ρ1 H1 v1 e1 rs1 r1 h1 => ⟨ρ1, l, s1, rs1, rl.mono e1, Post.bind bkRR h1 fun y s2 ρ2 H2 v2 e2 rs2 r2 h2 => ⟨v1, v2, H, H1, ρ2, s2, x, y, rfl, rs2, RR.mono e2 r1, r2, h2⟩⟩⟩
  · cases h
theorem s_isin {a : Ex} {t : Ty} (ha : SE T cf k N a) : SE T cf k N (.isin a t) := by
  intro X sc e g h
  simp only [ck] at h
  split at h
  · rename_i x px y z pz p
    obtain ⟨h, h7⟩ := and2 h
    obtain ⟨h, h6⟩ := and2 h
    obtain ⟨h, h5⟩ := and2 h
    obtain ⟨h, h4⟩ := and2 h
    obtain ⟨h, h3⟩ := and2 h
    obtain ⟨h1, h2⟩ := and2 h
    obtain ⟨g1, g2, g3⟩ := g.gl h2
    obtain ⟨z1, z2, z3⟩ := g.gl h6
    have sa := ha X sc y g h4
    have hz := ty_boot t
    rw [← of_decide_eq_true h5] at hz
    have pz' : PE X (.Name z pz) (tC (.ty t.name)) := pe_bltn (v := .ty t.name) z1 (g.blt z h7) hz rfl z3 z2
    have hx : bootBuiltins x = some (.builtin "isinstance") := by rw [of_decide_eq_true h1]; decide +kernel
    refine snd_mkR rfl rfl (pe_wk (pe_callB (call_isin (W := W0) t) g1 (g.blt x h3) hx (pa_cons sa.r (pa_cons pz' pa_nil) (ok_star sa.ok _ X.env)) g3 g2 (ok_star sa.ok _ X.env) rfl) fun σ H Q ⟨ρ, l, s, rs, rl, hp⟩ => ?_)
    exact ⟨ρ, l, s, rs, rl, Post.bind bkRR hp fun x s1 ρ1 H1 v1 e1 rs1 r1 h1 => ⟨v1, H, ρ1, s1, x, rfl, rs1, r1, h1⟩⟩
  · cases h
/-! methods -/
theorem base_ok {y : Expr} (h : notCall0 y = true) (name : Str) (env : Env) : attributeBase y name env (eval y env) = eval y env := by
  cases y with
  | Call f as ks p =>
    cases as with
    | nil => cases h
    | cons a r => cases f <;> rfl
  | _ => rfl
theorem ty_lst {K : PySem.W.Frag} {ρ : List Addr} {H : Hp} {s : Sto} {i : Nat} {xs : List D} {v : V} (rs : RS K ρ H s) (r : RV K ρ H (.obj i) v) (h : s[i]? = some (.lst xs)) : tyV K "list" v H := by
  obtain ⟨p, vs, rfl, h1, h2, h3⟩ := obj_lst rs r h
  exact .inl ⟨rfl, vs, SqL.of h2⟩
theorem m0_ty {K : PySem.W.Frag} {ρ : List Addr} {H : Hp} {s : Sto} {m : M0} {d : D} {v : V} {Q : VK} (rs : RS K ρ H s) (r : RV K ρ H d v) (h : Post K W0 (rRR K) ρ H Q (m0R m d s)) : tyV K "list" v H := by
  unfold m0R at h
  split at h
  · split at h
    · rename_i e; exact ty_lst rs r e
    · rename_i e; exact ty_lst rs r e
    · exact h.elim
  · exact h.elim
theorem s_m0 {m : M0} {o : Ex} (ho : SE T cf k N o) : SE T cf k N (.m0 m o) := by
  intro X sc e g h
  simp only [ck] at h
  split at h
  · rename_i y x ap cp
    obtain ⟨h, h4⟩ := and2 h
    obtain ⟨h, h3⟩ := and2 h
    obtain ⟨h1, h2⟩ := and2 h
    cases of_decide_eq_true h1
    have so := ho X sc y g h4
    have pe : PE X (.Call (.Attribute y (m.name : Str) ap) [] [] cp) (tBM0 X.K "list" (rM X.K W0 (m0R m)) (tVv X.K W0 (den cf T.gc o).v)) := by
      cases m with
      | reverse => exact pe_bm0 PySem.F.plainAttrs_list PySem.F.slot_list_reverse PySem.F.type_list_reverse (mt_m0 (W := W0) .reverse) so.v (base_ok h3 _ _) h2
      | clear => exact pe_bm0 PySem.F.plainAttrs_list PySem.F.slot_list_clear PySem.F.type_list_clear (mt_m0 (W := W0) .clear) so.v (base_ok h3 _ _) h2
      | pop => exact pe_bm0 PySem.F.plainAttrs_list PySem.F.slot_list_pop PySem.F.type_list_pop (mt_m0 (W := W0) .pop) so.v (base_ok h3 _ _) h2
    refine snd_mkR rfl rfl (pe_wk pe fun σ H Q ⟨ρ, l, s, rs, rl, hp⟩ => ?_)
    refine ⟨ρ, l, s, rs, rl, Post.bind bkRR hp fun d s1 ρ1 H1 v1 e1 rs1 r1 h1 => ⟨m0_ty rs1 r1 h1, ρ1, s1, d, rfl, rs1, r1, h1⟩⟩
  · cases h
theorem isLst_ty {K : PySem.W.Frag} {ρ : List Addr} {H : Hp} {s : Sto} {d : D} {v : V} (rs : RS K ρ H s) (r : RV K ρ H d v) (h : isLstB s d = true) : tyV K "list" v H := by
  unfold isLstB at h
  split at h
  · rename_i i
    cases e : lstAt s i with
    | none => rw [e] at h; cases h
    | some xs =>
      unfold lstAt at e
      split at e
      · rename_i ys ey; exact ty_lst rs r ey
      · cases e
  · cases h
theorem rv_rr {K : PySem.W.Frag} {H0 : Hp} {ρ : List Addr} {H : Hp} {d : D} {v : V} (r : RV K ρ H d v) : RR K H0 ρ H (.d d) v := r
theorem s_m1 {m : M1} {o a : Ex} (ho : SE T cf k N o) (ha : SE T cf k N a) : SE T cf k N (.m1 m o a) := by
  intro X sc e g h
  simp only [ck] at h
  split at h
  · rename_i y x ap z cp
    obtain ⟨h, h5⟩ := and2 h
    obtain ⟨h, h4⟩ := and2 h
    obtain ⟨h, h3⟩ := and2 h
    obtain ⟨h1, h2⟩ := and2 h
    cases of_decide_eq_true h1
    have so := ho X sc y g h4
    have sa := ha X sc z g h5
    have few : ((backTo cp (starEach [z] X.env)).all (fun x => !x.1) && (backToKw cp (keywordEach [] X.env)).all (fun x => x.1.isSome)
      && decide (([z] : List Expr).length + ([] : List Keyword).length + (if ([] : List Keyword).isEmpty then 0 else 1) < 30)) = true := by
      rw [ok_star sa.ok]
      rfl
    cases m with
    | append =>
      refine snd_mkR rfl rfl (pe_wk (pe_bm PySem.F.plainAttrs_list PySem.F.slot_list_append PySem.F.type_list_append (mt_m1 (W := W0) .append) so.v (pa_cons sa.v pa_nil (ok_star sa.ok [] X.env)) (base_ok h3 _ _) few h2 (ok_star sa.ok [] X.env) rfl) fun σ H Q ⟨ρ, l, s, rs, rl, hp⟩ => ?_)
      refine ⟨ρ, l, s, rs, rl, Post.bind bkRR hp fun d s1 ρ1 H1 v1 e1 rs1 r1 h1 => ?_⟩
      obtain ⟨c, h2⟩ := post_ite h1
      exact ⟨isLst_ty rs1 r1 c, ρ1, l, s1, rs1, rl.mono e1, Post.bind bkRR h2 fun y s2 ρ2 H2 v2 e2 rs2 r2 h3 => ⟨v2, H2, ρ2, s2, d, .d y, rfl, rs2, RV.mono e2 _ _ r1, r2, h3⟩⟩
    | extend =>
      refine snd_mkR rfl rfl (pe_wk (pe_bm PySem.F.plainAttrs_list PySem.F.slot_list_extend PySem.F.type_list_extend (mt_m1 (W := W0) .extend) so.v (pa_cons sa.r pa_nil (ok_star sa.ok [] X.env)) (base_ok h3 _ _) few h2 (ok_star sa.ok [] X.env) rfl) fun σ H Q ⟨ρ, l, s, rs, rl, hp⟩ => ?_)
      refine ⟨ρ, l, s, rs, rl, Post.bind bkRR hp fun d s1 ρ1 H1 v1 e1 rs1 r1 h1 => ?_⟩
      obtain ⟨c, h2⟩ := post_ite h1
      exact ⟨isLst_ty rs1 r1 c, ρ1, l, s1, rs1, rl.mono e1, Post.bind bkRR h2 fun y s2 ρ2 H2 v2 e2 rs2 r2 h3 => ⟨v2, H1, ρ2, s2, d, y, rfl, rs2, RV.mono e2 _ _ r1, r2, h3⟩⟩
  · cases h
/-! subscripts -/
theorem s_ix {a b : Ex} (ha : SE T cf k N a) (hb : SE T cf k N b) : SE T cf k N (.ix a b) := by
  intro X sc e g h
  simp only [ck] at h
  split at h
  · rename_i x y p
    obtain ⟨h1, h2⟩ := and2 h
    have sa := ha X sc x g h1
    have sb := hb X sc y g h2
    refine snd_mkR rfl rfl (pe_wk (pe_ix (ix_any (W := W0)) sa.r sb.r (ok_ix sb.ok)) fun σ H Q ⟨ρ, l, s, rs, rl, hp⟩ => ?_)
    exact ⟨ρ, l, s, rs, rl, Post.bind bkRR hp fun x s1 ρ1 H1 v1 e1 rs1 r1 h1 => ⟨ρ1, l, s1, rs1, rl.mono e1, Post.bind bkRR h1 fun y s2 ρ2 H2 v2 e2 rs2 r2 h2 => ⟨H, H1, ρ2, s2, x, y, rs2, RR.mono e2 r1, r2, h2⟩⟩⟩
  · cases h
abbrev rOI : Hp → List Addr → Hp → Option Int → Option Int → Prop := fun _ _ _ a b => a = b
def tOi (K : PySem.W.Frag) (W : Wx) (m : M (Option Int)) : TO := fun σ H Q => ∃ ρ l s, RS K ρ H s ∧ RL K ρ H σ l ∧ Post K W rOI ρ H Q (m l s)
theorem po_wk {X : Cx} {e : Option Expr} {t t' : TO} (h : PO X e t) (w : ∀ σ H Q, t' σ H Q → t σ H Q) : PO X e t' := ⟨fun pins s σ H Q I q => h.run pins s σ H Q I (w σ H Q q)⟩
theorem po_any {X : Cx} {sc : Scope} {t : Ex} (g : Good T cf k N sc X) (ht : SE T cf k N t) {l : Option Expr} (h : (match l with | none => t.isNil | some y => !t.isNil && (ck T N t).e sc y) = true) : PO X l (tOi X.K W0 (optI t.isNil (den cf T.gc t).r)) := by
  cases l with
  | none =>
    have h : t.isNil = true := h
    refine po_wk po_none fun σ H Q ⟨ρ, l, s, rs, rl, hp⟩ => ?_
    unfold optI at hp
    rw [if_pos h] at hp
    exact hp ρ H none .refl rs rfl
  | some y =>
    obtain ⟨h1, h2⟩ := and2 (show (!t.isNil && (ck T N t).e sc y) = true from h)
    have sa := ht X sc y g h2
    refine po_wk (po_some sa.r) fun σ H Q ⟨ρ, l, s, rs, rl, hp⟩ => ?_
    unfold optI at hp
    rw [if_neg (by simpa using h1)] at hp
    refine ⟨ρ, l, s, rs, rl, Post.bind (fun _ _ _ _ _ _ _ _ _ q => q) hp fun x s1 ρ1 H1 v1 e1 rs1 r1 h1 => ?_⟩
    split at h1
    · exact ⟨_, rr_int r1, h1 ρ1 H1 _ .refl rs1 rfl⟩
    · exact h1.elim
theorem s_sl {a lo hi : Ex} (ha : SE T cf k N a) (hl : SE T cf k N lo) (hh : SE T cf k N hi) : SE T cf k N (.sl a lo hi) := by
  intro X sc e g h
  simp only [ck] at h
  split at h
  · rename_i x l u p1 p2
    obtain ⟨h, h3⟩ := and2 h
    obtain ⟨h1, h2⟩ := and2 h
    have sa := ha X sc x g h1
    refine snd_mkR rfl rfl (pe_wk (pe_slice (sl_any (W := W0)) sa.r (po_any g hl h2) (po_any g hh h3)) fun σ H Q ⟨ρ, l, s, rs, rl, hp⟩ => ?_)
    refine ⟨ρ, l, s, rs, rl, Post.bind bkRR hp fun x s1 ρ1 H1 v1 e1 rs1 r1 h1 => ⟨ρ1, l, s1, rs1, rl.mono e1, Post.bind bkRR h1 fun i s2 ρ2 H2 i' e2 rs2 r2 h2 => ⟨ρ2, l, s2, rs2, (rl.mono e1).mono e2, Post.bind bkRR h2 fun j s3 ρ3 H3 j' e3 rs3 r3 h3 => ?_⟩⟩⟩
    cases r2
    cases r3
    exact ⟨H, ρ3, s3, x, rs3, RR.mono e3 (RR.mono e2 r1), h3⟩
  · cases h
/-! walks -/
theorem i1_boot (f : I1) : bootBuiltins (f.name : Str) = some (.type f.name) := by cases f <;> decide +kernel
theorem it_rev {K : PySem.W.Frag} {ρ : List Addr} {H : Hp} {p : Addr} {xs : List D} {src : Option (Nat × List D)}
    (h : ∀ (ρ1 : List Addr) (H1 : Hp) (s1 : Sto), Ext K ρ H ρ1 H1 → RS K ρ1 H1 s1 → srcOk src s1 → ∃ vs, SqL K H1 p vs ∧ RVs K ρ1 H1 xs vs) : ItOk K ρ H ⟨xs.reverse, src⟩ (Itv K p xs.length) := by
  intro ρ1 H1 s1 e rs so i
  obtain ⟨vs, h1, h2⟩ := h ρ1 H1 s1 e rs so
  have hl := h2.length
  refine ⟨fun d hd => ?_, fun hi => ?_⟩
  · have hd : xs.reverse[i]? = some d := hd
    have hlt : i < xs.length := by
      have := (List.getElem?_eq_some_iff.mp hd).1
      rwa [List.length_reverse] at this
    rw [List.getElem?_reverse hlt] at hd
    obtain ⟨v, h3, h4⟩ := h2.get hd
    refine ⟨⟨hlt, vs, v, h1, h3⟩, fun x H2 hyx => ?_⟩
    obtain ⟨hy, hx⟩ := hyx
    subst hy
    have := hx vs h1
    rw [h3] at this
    cases this
    exact ⟨.refl, rs, h4⟩
  · have hi : xs.reverse.length = i := hi
    rw [List.length_reverse] at hi
    exact Nat.le_of_eq hi
theorem it_revT {K : PySem.W.Frag} {ρ : List Addr} {H : Hp} {p : Addr} {xs : List D} {vs : List V} {src : Option (Nat × List D)} (h1 : SqT K H p vs) (h2 : RVs K ρ H xs vs) : ItOk K ρ H ⟨xs.reverse, src⟩ (ItvT K p xs.length) := by
  intro ρ1 H1 s1 e rs so i
  have h1 := e.tup _ _ h1
  have h2 := RVs.mono e _ _ h2
  refine ⟨fun d hd => ?_, fun hi => ?_⟩
  · have hd : xs.reverse[i]? = some d := hd
    have hlt : i < xs.length := by
      have := (List.getElem?_eq_some_iff.mp hd).1
      rwa [List.length_reverse] at this
    rw [List.getElem?_reverse hlt] at hd
    obtain ⟨v, h3, h4⟩ := h2.get hd
    refine ⟨⟨hlt, vs, v, h1, h3⟩, fun x H2 hyx => ?_⟩
    obtain ⟨hy, hx⟩ := hyx
    subst hy
    have := hx vs h1
    rw [h3] at this
    cases this
    exact ⟨.refl, rs, h4⟩
  · have hi : xs.reverse.length = i := hi
    rw [List.length_reverse] at hi
    exact Nat.le_of_eq hi
theorem numbered_get : ∀ (xs : List D) (k i : Nat), (numbered k xs)[i]? = (xs[i]?).map fun x => D.tup [.int ((k + i : Nat) : Int), x]
  | [], k, i => by simp [numbered]
  | x :: r, k, 0 => by simp [numbered]
  | x :: r, k, i + 1 => by
    show (numbered (k + 1) r)[i]? = _
    rw [numbered_get r (k + 1) i, show k + 1 + i = k + (i + 1) by omega]
    rfl
theorem numbered_length : ∀ (xs : List D) (k : Nat), (numbered k xs).length = xs.length
  | [], k => rfl
  | x :: r, k => by
    show (numbered (k + 1) r).length + 1 = r.length + 1
    rw [numbered_length]
theorem it_enum {K : PySem.W.Frag} {ρ : List Addr} {H : Hp} {p : Addr} {xs : List D} {src : Option (Nat × List D)}
    (h : ∀ (ρ1 : List Addr) (H1 : Hp) (s1 : Sto), Ext K ρ H ρ1 H1 → RS K ρ1 H1 s1 → srcOk src s1 → ∃ vs, SqL K H1 p vs ∧ RVs K ρ1 H1 xs vs) : ItOk K ρ H ⟨numbered 0 xs, src⟩ (Ite K p) := by
  intro ρ1 H1 s1 e rs so i
  obtain ⟨vs, h1, h2⟩ := h ρ1 H1 s1 e rs so
  have hl := h2.length
  refine ⟨fun d hd => ?_, fun hi => ?_⟩
  · have hd : (numbered 0 xs)[i]? = some d := hd
    rw [numbered_get] at hd
    obtain ⟨z, hz, rfl⟩ := Option.map_eq_some_iff.mp hd
    obtain ⟨v, h3, h4⟩ := h2.get hz
    refine ⟨⟨vs, v, h1, h3⟩, fun x H2 ⟨t, y, hx, ht, hy, hv⟩ => ?_⟩
    subst hx
    subst hy
    have := hv vs h1
    rw [h3] at this
    cases this
    refine ⟨Ext.laid ht, rs.laid ht, rv_tup.mpr ⟨t, _, rfl, SqT.of upd_same, ?_⟩⟩
    refine .cons_ (rv_int.mpr ?_) (.one (RV.mono (Ext.laid ht) _ _ h4))
    rw [Nat.zero_add]
  · have hi : (numbered 0 xs).length = i := hi
    rw [numbered_length] at hi
    exact ⟨vs, h1, by rw [hl]; exact Nat.le_of_eq hi⟩
theorem i1_range {s : Sto} {a : RD} {its : Nv.Its} (h : i1R .range s a = some its) : ∃ j, a = .d (.int j) ∧ small62 j ∧ its = ⟨upTo 0 j.toNat, none⟩ := by
  unfold i1R at h
  simp only at h
  split at h
  · split at h
    · rename_i j c
      cases h
      exact ⟨_, rfl, c, rfl⟩
    · cases h
  · cases h
theorem i2_range {s : Sto} {a b : RD} {its : Nv.Its} (h : i2R .range s a b = some its) : ∃ i j, a = .d (.int i) ∧ b = .d (.int j) ∧ small62 i ∧ small62 j ∧ its = ⟨upTo i (j - i).toNat, none⟩ := by
  unfold i2R at h
  simp only at h
  split at h
  · split at h
    · rename_i c
      cases h
      exact ⟨_, _, rfl, rfl, c.1, c.2, rfl⟩
    · cases h
  · cases h
theorem s_i1 {f : I1} {a : Ex} (ha : SE T cf k N a) : SE T cf k N (.i1 f a) := by
  intro X sc e g h
  simp only [ck] at h
  split at h
  · rename_i x px y p
    obtain ⟨h, h4⟩ := and2 h
    obtain ⟨h, h3⟩ := and2 h
    obtain ⟨h1, h2⟩ := and2 h
    cases of_decide_eq_true h1
    obtain ⟨g1, g2, g3⟩ := g.gl h2
    have sa := ha X sc y g h4
    have hst := ok_star sa.ok [] X.env
    refine snd_mkI rfl (fun _ _ _ q => by cases q) fun tg htg => ?_
    cases f with
    | range =>
      refine pi_wk (pi_range1 g1 (g.blt _ h3) (pa_r sa.ok sa.r) hst) fun σ H R ⟨ρ, l, s, rs, rl, hp⟩ => ?_
      refine ⟨ρ, l, s, rs, rl, Post.bind bkIt hp fun x s1 ρ1 H1 v1 e1 rs1 r1 h1 => ?_⟩
      cases e2 : i1R .range s1 x with
      | none => rw [e2] at h1; exact h1.elim
      | some its =>
        rw [e2] at h1
        obtain ⟨j, rfl, c, rfl⟩ := i1_range e2
        exact ⟨j, by rw [rr_int r1], c.1, c.2, h1 ρ1 H1 _ .refl rs1 it_range⟩
    | reversed =>
      refine pi_wk (pi_revA g1 (g.blt _ h3) sa.r hst) fun σ H R ⟨ρ, l, s, rs, rl, hp⟩ => ?_
      refine ⟨ρ, l, s, rs, rl, Post.bind bkIt hp fun x s1 ρ1 H1 v1 e1 rs1 r1 h1 => ?_⟩
      cases e2 : i1R .reversed s1 x with
      | none => rw [e2] at h1; exact h1.elim
      | some its =>
        rw [e2] at h1
        obtain ⟨xs, e3, e4⟩ := Option.map_eq_some_iff.mp (show (asQ s1 x).map (fun xs => (⟨xs.reverse, srcR s1 x⟩ : Nv.Its)) = some its from e2)
        cases e4
        have lst : asL s1 x = some xs → ∃ (a : Addr) (vs : List V), v1 = .ref a ∧ ((SqL X.K H1 a vs ∧ R (Itv X.K a vs.length) H1) ∨ (SqT X.K H1 a vs ∧ R (ItvT X.K a vs.length) H1)) := fun q => by
          obtain ⟨p, vs, hv, k1, k2⟩ := asL_ok rs1 r1 q
          obtain ⟨p', hv', k3⟩ := src_list rs1 r1 q
          rw [hv] at hv'
          cases hv'
          exact ⟨p, vs, hv, .inl ⟨k1, by rw [k2.length]; exact h1 ρ1 H1 _ .refl rs1 (it_rev k3)⟩⟩
        cases x with
        | l ys => exact lst e3
        | d z =>
          cases z with
          | tup ys =>
            cases e3
            obtain ⟨p, vs, hv, k1, k2⟩ := rr_tup r1
            exact ⟨p, vs, hv, .inr ⟨k1, by rw [k2.length]; exact h1 ρ1 H1 _ .refl rs1 (it_revT k1 k2)⟩⟩
          | lf ys => exact lst e3
          | obj i => exact lst e3
          | _ => cases e3
    | enumerate =>
      cases tg with
      | Tuple es kk tp =>
        refine pi_wk (pi_enum g1 (g.blt _ h3) (pa_r sa.ok sa.r) hst) fun σ H R ⟨ρ, l, s, rs, rl, hp⟩ => ?_
        refine ⟨ρ, l, s, rs, rl, Post.bind bkIt hp fun x s1 ρ1 H1 v1 e1 rs1 r1 h1 => ?_⟩
        cases e2 : i1R .enumerate s1 x with
        | none => rw [e2] at h1; exact h1.elim
        | some its =>
          rw [e2] at h1
          obtain ⟨xs, e3, e4⟩ := Option.map_eq_some_iff.mp (show (asL s1 x).map (fun xs => (⟨numbered 0 xs, srcR s1 x⟩ : Nv.Its)) = some its from e2)
          cases e4
          obtain ⟨p, vs, hv, k1, k2⟩ := asL_ok rs1 r1 e3
          obtain ⟨p', hv', k3⟩ := src_list rs1 r1 e3
          rw [hv] at hv'
          cases hv'
          exact ⟨p, vs, by rw [hv], k1, h1 ρ1 H1 _ .refl rs1 (it_enum k3)⟩
      | _ => cases htg
  · cases h

theorem i2_boot (f : I2) : bootBuiltins (f.name : Str) = some (.type f.name) := by cases f <;> decide +kernel
theorem zipD_get : ∀ (xs ys : List D) (i : Nat) (d : D), (zipD xs ys)[i]? = some d → ∃ x y, xs[i]? = some x ∧ ys[i]? = some y ∧ d = .tup [x, y]
  | [], _, _, _, h => by simp [zipD] at h
  | _ :: _, [], _, _, h => by simp [zipD] at h
  | x :: r, y :: q, 0, d, h => by
    simp [zipD] at h
    exact ⟨x, y, rfl, rfl, h.symm⟩
  | x :: r, y :: q, i + 1, d, h => by
    obtain ⟨a, b, h1, h2, h3⟩ := zipD_get r q i d (by simpa [zipD] using h)
    exact ⟨a, b, by simpa using h1, by simpa using h2, h3⟩
theorem zipD_length : ∀ (xs ys : List D), (zipD xs ys).length = min xs.length ys.length
  | [], _ => by simp [zipD]
  | _ :: _, [] => by simp [zipD]
  | x :: r, y :: q => by
    simp only [zipD, List.length_cons, zipD_length r q]
    omega
/-- a list that no one else may change -/
theorem asL_keep {K : PySem.W.Frag} {ρ : List Addr} {H H0 : Hp} {s : Sto} {a : RD} {x : V} {xs : List D} (r : RR K H0 ρ H a x) (h : asL s a = some xs) (hs : srcR s a = none) :
    ∃ p vs, x = .ref p ∧ SqL K H p vs ∧ RVs K ρ H xs vs ∧ ∀ ρ1 H1, Ext K ρ H ρ1 H1 → SqL K H1 p vs := by
  unfold asL at h
  split at h
  · cases h
    obtain ⟨q, us, e1, e2, e3, e4, _⟩ := r
    exact ⟨q, us, e1, SqL.of e2, e3, fun ρ1 H1 e => SqL.of (e.oth _ _ e2 e4)⟩
  · cases h
    unfold RR RV at r
    obtain ⟨q, us, e1, e2, e3⟩ := r
    exact ⟨q, us, e1, e2.sql, e3, fun ρ1 H1 e => (e.fzl _ _ e2).sql⟩
  · have hs : (lstAt s _).map (fun xs => (_, xs)) = none := hs
    rw [h] at hs
    cases hs
  · cases h
theorem it_zip {K : PySem.W.Frag} {ρ : List Addr} {H : Hp} {a b : Addr} {xs ys : List D}
    (ha : ∀ (ρ1 : List Addr) (H1 : Hp), Ext K ρ H ρ1 H1 → ∃ vs, SqL K H1 a vs ∧ RVs K ρ1 H1 xs vs) (hb : ∀ (ρ1 : List Addr) (H1 : Hp), Ext K ρ H ρ1 H1 → ∃ vs, SqL K H1 b vs ∧ RVs K ρ1 H1 ys vs) : ItOk K ρ H ⟨zipD xs ys, none⟩ (Itz K a b) := by
  intro ρ1 H1 s1 e rs so i
  obtain ⟨vs, a1, a2⟩ := ha ρ1 H1 e
  obtain ⟨us, b1, b2⟩ := hb ρ1 H1 e
  refine ⟨fun d hd => ?_, fun hi => ?_⟩
  · obtain ⟨x, y, h1, h2, rfl⟩ := zipD_get xs ys i d hd
    obtain ⟨v, h3, h4⟩ := a2.get h1
    obtain ⟨u, h5, h6⟩ := b2.get h2
    refine ⟨⟨vs, us, v, u, a1, b1, h3, h5⟩, fun z H2 hz => ?_⟩
    obtain ⟨t, v', u', hx, ht, hy, hv, hu⟩ := hz
    subst hx
    subst hy
    have q1 := hv vs a1
    have q2 := hu us b1
    rw [h3] at q1
    rw [h5] at q2
    cases q1
    cases q2
    refine ⟨Ext.laid ht, rs.laid ht, rv_tup.mpr ⟨t, _, rfl, SqT.of upd_same, ?_⟩⟩
    exact .cons_ (RV.mono (Ext.laid ht) _ _ h4) (.one (RV.mono (Ext.laid ht) _ _ h6))
  · have hi : (zipD xs ys).length = i := hi
    rw [zipD_length] at hi
    have l1 := a2.length
    have l2 := b2.length
    exact ⟨vs, us, a1, b1, by omega⟩
theorem it_zipT {K : PySem.W.Frag} {ρ : List Addr} {H : Hp} {a b : Addr} {xs ys : List D} {vs us : List V} (a1 : SqT K H a vs) (a2 : RVs K ρ H xs vs) (b1 : SqT K H b us) (b2 : RVs K ρ H ys us) : ItOk K ρ H ⟨zipD xs ys, none⟩ (ItzT K a b) := by
  intro ρ1 H1 s1 e rs so i
  have a1 := e.tup _ _ a1
  have b1 := e.tup _ _ b1
  have a2 := RVs.mono e _ _ a2
  have b2 := RVs.mono e _ _ b2
  refine ⟨fun d hd => ?_, fun hi => ?_⟩
  · obtain ⟨x, y, h1, h2, rfl⟩ := zipD_get xs ys i d hd
    obtain ⟨v, h3, h4⟩ := a2.get h1
    obtain ⟨u, h5, h6⟩ := b2.get h2
    refine ⟨⟨vs, us, v, u, a1, b1, h3, h5⟩, fun z H2 hz => ?_⟩
    obtain ⟨t, v', u', hx, ht, hy, hv, hu⟩ := hz
    subst hx
    subst hy
    have q1 := hv vs a1
    have q2 := hu us b1
    rw [h3] at q1
    rw [h5] at q2
    cases q1
    cases q2
    refine ⟨Ext.laid ht, rs.laid ht, rv_tup.mpr ⟨t, _, rfl, SqT.of upd_same, ?_⟩⟩
    exact .cons_ (RV.mono (Ext.laid ht) _ _ h4) (.one (RV.mono (Ext.laid ht) _ _ h6))
  · have hi : (zipD xs ys).length = i := hi
    rw [zipD_length] at hi
    have l1 := a2.length
    have l2 := b2.length
    exact ⟨vs, us, a1, b1, by omega⟩
theorem i2_zip {s : Sto} {a b : RD} {its : Nv.Its} (h : i2R .zip s a b = some its) : (∃ xs ys, a = .d (.tup xs) ∧ b = .d (.tup ys) ∧ its = ⟨zipD xs ys, none⟩) ∨ ∃ xs ys, asL s a = some xs ∧ asL s b = some ys ∧ srcR s a = none ∧ srcR s b = none ∧ its = ⟨zipD xs ys, none⟩ := by
  unfold i2R at h
  simp only at h
  split at h
  · cases h
  · cases h
  · cases h; exact .inl ⟨_, _, rfl, rfl, rfl⟩
  · rename_i h1 h2 _
    split at h
    · rename_i xs ys e1 e2
      cases h
      refine .inr ⟨xs, ys, e1, e2, ?_, ?_, rfl⟩
      · cases a with
        | l _ => rfl
        | d z => cases z <;> first | rfl | exact absurd rfl (h1 _)
      · cases b with
        | l _ => rfl
        | d z => cases z <;> first | rfl | exact absurd rfl (h2 _)
    · cases h
theorem s_i2 {f : I2} {a b : Ex} (ha : SE T cf k N a) (hb : SE T cf k N b) : SE T cf k N (.i2 f a b) := by
  intro X sc e g h
  simp only [ck] at h
  split at h
  · rename_i x px y z p
    obtain ⟨h, h5⟩ := and2 h
    obtain ⟨h, h4⟩ := and2 h
    obtain ⟨h, h3⟩ := and2 h
    obtain ⟨h1, h2⟩ := and2 h
    cases of_decide_eq_true h1
    obtain ⟨g1, g2, g3⟩ := g.gl h2
    have sa := ha X sc y g h4
    have sb := hb X sc z g h5
    have st1 := ok_star sa.ok [z] X.env
    have st2 := ok_star sb.ok [] X.env
    have pa := pa_cons sa.r (pa_r sb.ok sb.r) st1
    refine snd_mkI rfl (fun _ _ _ q => by cases q) fun tg htg => ?_
    cases f with
    | range =>
      refine pi_wk (pi_range2 g1 (g.blt _ h3) pa (by rw [st1, st2]; rfl) st2) fun σ H R ⟨ρ, l, s, rs, rl, hp⟩ => ?_
      refine ⟨ρ, l, s, rs, rl, Post.bind bkIt hp fun x s1 ρ1 H1 v1 e1 rs1 r1 h1 => ⟨ρ1, l, s1, rs1, rl.mono e1, Post.bind bkIt h1 fun y s2 ρ2 H2 v2 e2 rs2 r2 h2 => ?_⟩⟩
      cases e3 : i2R .range s2 x y with
      | none => rw [e3] at h2; exact h2.elim
      | some its =>
        rw [e3] at h2
        obtain ⟨i, j, rfl, rfl, c1, c2, rfl⟩ := i2_range e3
        exact ⟨i, j, by rw [rr_int (RR.mono e2 r1), rr_int r2], ⟨c1.1, c1.2, c2.1, c2.2⟩, h2 ρ2 H2 _ .refl rs2 it_range⟩
    | zip =>
      cases tg with
      | Tuple es kk tp =>
        refine pi_wk (pi_zipA g1 (g.blt _ h3) pa st1 (by rw [st2]; rfl)) fun σ H R ⟨ρ, l, s, rs, rl, hp⟩ => ?_
        refine ⟨ρ, l, s, rs, rl, Post.bind bkIt hp fun x s1 ρ1 H1 v1 e1 rs1 r1 h1 => ⟨ρ1, l, s1, rs1, rl.mono e1, Post.bind bkIt h1 fun y s2 ρ2 H2 v2 e2 rs2 r2 h2 => ?_⟩⟩
        have r1 := RR.mono e2 r1
        cases e3 : i2R .zip s2 x y with
        | none => rw [e3] at h2; exact h2.elim
        | some its =>
          rw [e3] at h2
          rcases i2_zip e3 with ⟨xs, ys, rfl, rfl, rfl⟩ | ⟨xs, ys, q1, q2, q3, q4, rfl⟩
          · obtain ⟨p1, vs, rfl, k1, k2⟩ := rr_tup r1
            obtain ⟨p2, us, rfl, k3, k4⟩ := rr_tup r2
            exact ⟨p1, p2, vs, us, rfl, .inr ⟨k1, k3, h2 ρ2 H2 _ .refl rs2 (it_zipT k1 k2 k3 k4)⟩⟩
          · obtain ⟨p1, vs, rfl, k1, k2, k5⟩ := asL_keep r1 q1 q3
            obtain ⟨p2, us, rfl, k3, k4, k6⟩ := asL_keep r2 q2 q4
            exact ⟨p1, p2, vs, us, rfl, .inl ⟨k1, k3, h2 ρ2 H2 _ .refl rs2 (it_zip (fun ρ3 H3 e4 => ⟨vs, k5 _ _ e4, RVs.mono e4 _ _ k2⟩) fun ρ3 H3 e4 => ⟨us, k6 _ _ e4, RVs.mono e4 _ _ k4⟩)⟩⟩
      | _ => cases htg
  · cases h
end
end Nv

set_option Elab.async false
set_option linter.all false
set_option maxRecDepth 100000
set_option autoImplicit false
set_option maxHeartbeats 4000000
/-! NvFs: sorted(set(xs)), len(set(xs)). -/
namespace Nv
open PySem PySem.Spec PyProof.Rows L2

/-! ### lists without doubles -/
section
variable {α : Type} [DecidableEq α]
theorem mem_uniq {x : α} : ∀ {l : List α}, x ∈ uniq l ↔ x ∈ l
  | [] => Iff.rfl
  | y :: l => by
    unfold uniq
    split
    · rename_i h
      rw [mem_uniq, List.mem_cons]
      exact ⟨.inr, fun q => q.elim (fun e => by rw [e]; exact h) id⟩
    · rw [List.mem_cons, List.mem_cons, mem_uniq]
theorem uniq_nodup : ∀ l : List α, (uniq l).Nodup
  | [] => List.nodup_nil
  | y :: l => by
    unfold uniq
    split
    · exact uniq_nodup l
    · rename_i h
      exact List.nodup_cons.mpr ⟨fun q => h (mem_uniq.mp q), uniq_nodup l⟩
theorem uniq_len : ∀ l : List α, (uniq l).length ≤ l.length
  | [] => Nat.le_refl _
  | y :: l => by
    have := uniq_len l
    unfold uniq
    split
    · rw [List.length_cons]; omega
    · rw [List.length_cons, List.length_cons]; omega
theorem uniq_id : ∀ {l : List α}, l.Nodup → uniq l = l
  | [], _ => rfl
  | y :: l, h => by
    obtain ⟨h1, h2⟩ := List.nodup_cons.mp h
    unfold uniq
    rw [if_neg h1, uniq_id h2]
theorem From.uniq_perm {ks L : List (Value × α)} (g : From ks ks.length L) : (L.map (·.2)).Perm (uniq (ks.map (·.2))) := by
  refine (List.perm_ext_iff_of_nodup g.nd (uniq_nodup _)).mpr fun x => ?_
  rw [mem_uniq]
  constructor
  · intro h
    obtain ⟨p, hp, e⟩ := List.mem_map.mp h
    exact List.mem_map.mpr ⟨p, g.sub p hp, e⟩
  · intro h
    obtain ⟨p, hp, e⟩ := List.mem_map.mp h
    rw [← e]
    exact g.all p (by rw [List.take_length]; exact hp)
end
theorem sort_perm {l m : List Str} (p : l.Perm m) : l.mergeSort leS = m.mergeSort leS := by
  refine List.Perm.eq_of_pairwise (le := fun a b => leS a b = true) (fun a b _ _ p q => ?_) (pw_sort _) (pw_sort _) ((List.mergeSort_perm _ _).trans (p.trans (List.mergeSort_perm _ _).symm))
  have := List.le_antisymm (of_decide_eq_true p) (of_decide_eq_true q)
  cases a; cases b
  simpa using this

/-! ### the sets as things of the heap -/
def TSO (P : Program) (w : World) (a : Addr) (L : List (Value × Str)) : HO := .ext fun h => TSt P w h a L
def NSO (w : World) (a : Addr) (L : List (Value × NestedKey)) : HO := .ext fun h => NSt w (NestedKey.hash w) h a L
theorem tso_ok {P : Program} {w : World} {H : Hp} {h : Heap} {a : Addr} {L : List (Value × Str)} (S : TSt P w h a L) : ObjOk P w H h a (TSO P w a L) := by
  obtain ⟨D, h1, h2⟩ := id S
  exact ⟨S, ⟨_, h1⟩, fun x y p k => addsS.stay p k⟩
theorem nso_ok {P : Program} {w : World} {H : Hp} {h : Heap} {a : Addr} {L : List (Value × NestedKey)} (S : NSt w (NestedKey.hash w) h a L) : ObjOk P w H h a (NSO w a L) := by
  obtain ⟨es, ep, t, R⟩ := id S
  obtain ⟨o, ho, _⟩ := R.ob
  exact ⟨S, ⟨o, ho⟩, fun x y p k => (addsT (P := P) sideN).stay p k⟩
section
variable {X : Cx}
/-- the items as pairs -/
theorem pairs {κ : Type} {Is : Heap → κ → Value → Prop} {h : Heap} : ∀ {us : List Value} {ks : List κ}, PySem.W.EachIs (fun v k => Is h k v) us ks → ∃ ps : List (Value × κ), us = ps.map (·.1) ∧ ps.map (·.2) = ks ∧ ∀ p ∈ ps, Is h p.2 p.1
  | _, _, .nil => ⟨[], rfl, rfl, fun p hp => by cases hp⟩
  | _, _, .cons (a := v) (b := k) r t => by
    obtain ⟨ps, h1, h2, h3⟩ := pairs t
    refine ⟨(v, k) :: ps, by rw [h1]; rfl, by rw [List.map_cons, h2], fun p hp => ?_⟩
    rcases List.mem_cons.mp hp with e | z
    · rw [e]; exact r
    · exact h3 p z
/-- set(xs) -/
def rSetX (X : Cx) : List V → Hp → VK → Prop := fun xs H Q => ∃ (l : Addr) (vs : List V), xs = [.ref l] ∧ SqL X.K H l vs ∧ vs.length < 64 ∧
  ((∃ ss : List Str, vs = ss.map V.str ∧ ∀ a L, H a = none → L.length < 64 → (L.map (·.2)).Nodup → (L.map (·.2)).Perm (uniq ss) → Q (.ref a) (upd H a (TSO X.prog X.w a L))) ∨
   ∃ ks : List NestedKey, (∀ (pins : List (Addr × Obj)) (σ : L2.St) (s : Shared) (us : List Value), Inv X pins σ H s → Vals vs us → PySem.W.EachIs (fun v k => IsN s.heap k v) us ks) ∧
     ∀ a L, H a = none → L.length < 64 → (L.map (·.2)).Perm (uniq ks) → Q (.ref a) (upd H a (NSO X.w a L)))
theorem each_strs {h : Heap} : ∀ {ss : List Str} {us : List Value}, Vals (ss.map V.str) us → PySem.W.EachIs (fun v k => IsS h k v) us ss
  | [], _, .nil => .nil
  | x :: ss, _, .cons r t => .cons r (each_strs t)
theorem cr_setX (hc : X.calm = true) (hu : X.A.units + 63 < cLine) : CallR X (.type "set") (rSetX X) := by
  intro pins s σ H xs us Q I r h
  obtain ⟨l, vs, rfl, hl, few, h⟩ := h
  rw [Vals.ref1 r]
  obtain ⟨its, rv, pl, hz⟩ := I.list hl
  have hn : H s.heap.objs.size = none := I.hok.fresh (Nat.le_refl _)
  have hlen := rv.length
  rcases h with ⟨ss, rfl, q⟩ | ⟨ks, hk, q⟩
  · obtain ⟨ps, e1, e2, e3⟩ := pairs (Is := IsS) (h := s.heap) (each_strs rv)
    have el : ps.length < 64 := by rw [← List.length_map (f := (·.2)), e2]; rwa [List.length_map] at few
    refine call_setA addsS ps (I.ok.hd hc) pl.isList (by simpa using e1) e3 el hu fun h' tk L S g k => ?_
    exact ⟨.ref s.heap.objs.size, _, I.laid (t' := tk) k (Nat.le_refl _) (tso_ok S), rfl, q _ L hn (Nat.lt_of_le_of_lt g.len el) g.nd (by rw [← e2]; exact g.uniq_perm)⟩
  · obtain ⟨ps, e1, e2, e3⟩ := pairs (hk pins σ s its I rv)
    have el : ps.length < 64 := by
      have := congrArg List.length e1
      rw [List.length_map] at this
      omega
    refine call_setA (addsT sideN) ps (I.ok.hd hc) pl.isList (by simpa using e1) e3 el hu fun h' tk L S g k => ?_
    exact ⟨.ref s.heap.objs.size, _, I.laid (t' := tk) k (Nat.le_refl _) (nso_ok S), rfl, q _ L hn (Nat.lt_of_le_of_lt g.len el) (by rw [← e2]; exact g.uniq_perm)⟩
/-- sorted(set) -/
def rSortX (X : Cx) : List V → Hp → VK → Prop := fun xs H Q => ∃ (a : Addr) (L : List (Value × Str)), xs = [.ref a] ∧ H a = some (TSO X.prog X.w a L) ∧ L.length < 64 ∧ (L.map (·.2)).Nodup ∧ ∀ p, H p = none → Q (.ref p) (upd H p (.lst (((L.map (·.2)).mergeSort leS).map V.str)))
theorem vals_each : ∀ {out : List Value} {ss : List Str}, PySem.W.EachIs (fun v b => ∃ t, v = Value.str b t) out ss → Vals (ss.map V.str) out
  | _, _, .nil => .nil
  | _, _, .cons r t => .cons r (vals_each t)
theorem cr_sortX (hc : X.calm = true) (hu : X.A.units + 63 < cLine) : CallR X (.builtin "sorted") (rSortX X) := by
  intro pins s σ H xs us Q I r h
  obtain ⟨a, L, rfl, ha, few, nd, q⟩ := h
  rw [Vals.ref1 r]
  refine sorted_setS (I.hok a _ ha).1 nd few (I.ok.hd hc) (by omega) fun s' p c out k g o hp hg e => ?_
  have hn : H p = none := I.hok.fresh hp
  have hv := vals_each e
  have hz : (((L.map (·.2)).mergeSort leS).map V.str).length ≤ sizeLine := by
    rw [List.length_map, (List.mergeSort_perm _ _).length_eq, List.length_map, sizeLine_eq]
    omega
  have J : Inv X pins σ (upd H p (.lst (((L.map (·.2)).mergeSort leS).map V.str))) { s with heap := s'.heap, gens := s'.gens, drawn := s'.drawn, toks := s'.toks } :=
    I.call (ch := []) (Un.laid k hp hn) (I.hok.laid k hp ⟨hz, out.toArray.toList, c, by simpa using hv, hg⟩) (by rw [g]; exact I.bare) (fun _ z => nomatch z)
  have es : s' = { s with heap := s'.heap, gens := s'.gens, drawn := s'.drawn, toks := s'.toks } := by
    cases s'
    cases s
    cases o
    rfl
  rw [es]
  exact ⟨.ref p, _, J, rfl, q p hn⟩
/-- len(set) -/
def rLenX (X : Cx) : List V → Hp → VK → Prop := fun xs H Q => ∃ (a : Addr) (n : Nat), xs = [.ref a] ∧ n < 64 ∧ ((∃ L, H a = some (TSO X.prog X.w a L) ∧ L.length = n) ∨ ∃ L, H a = some (NSO X.w a L) ∧ L.length = n) ∧ Q (.int n) H
theorem cr_lenX : CallR X (.builtin "len") (rLenX X) := by
  intro pins s σ H xs us Q I r h
  obtain ⟨a, n, rfl, few, h, q⟩ := h
  rw [Vals.ref1 r]
  have fin : ∀ (o : Obj) (es : Array (Int × Value)) (ep : Nat) (t : SetTable), s.heap.get? a = some o → o.ExactSet → o.data = .set es ep t → t.fits es.size = true → es.size = n →
      wpAny (model X.prog X.w) X.A (call (.builtin "len") [.ref a]) (EP X pins σ Q) X.xe s := fun o es ep t h1 h2 h3 h4 h5 => by
    refine call_len_set h1 h2 h3 h4 (by rw [h5]; omega) ⟨.int n, H, I.tok _, ⟨_, by rw [h5]⟩, q⟩
  rcases h with ⟨L, h1, h2⟩ | ⟨L, h1, h2⟩
  · obtain ⟨⟨es, ep, t⟩, g1, g2, _⟩ : TSt X.prog X.w s.heap a L := (I.hok a _ h1).1
    exact fin _ es ep t g1 ⟨rfl, rfl, rfl⟩ rfl g2.fit (by rw [← h2, ← List.length_map (f := (·.2))]; exact g2.sz)
  · obtain ⟨es, ep, t, R⟩ : NSt X.w (NestedKey.hash X.w) s.heap a L := (I.hok a _ h1).1
    obtain ⟨o, g1, g2, g3⟩ := R.ob
    exact fin o es ep t g1 g2 g3 R.fit (by rw [R.size, h2])
end
/-! ### the data as keys -/
section
variable {X : Cx} {ρ : List Addr} {H : Hp}
theorem rvs_strs {K : PySem.W.Frag} : ∀ ss : List Str, RVs K ρ H (ss.map D.str) (ss.map V.str)
  | [] => .nil_
  | x :: r => .cons_ (rv_str.mpr rfl) (rvs_strs r)
theorem strsOf_ok {K : PySem.W.Frag} : ∀ {ds : List D} {vs : List V} {ss : List Str}, RVs K ρ H ds vs → strsOf ds = some ss → vs = ss.map V.str
  | [], vs, ss, h, e => by unfold RVs at h; unfold strsOf at e; subst h; cases e; rfl
  | d :: ds, vs, ss, h, e => by
    unfold RVs at h
    obtain ⟨v, r, rfl, h2, h3⟩ := h
    cases d with
    | str b =>
      unfold strsOf at e
      obtain ⟨cs, q, rfl⟩ := Option.map_eq_some_iff.mp e
      rw [strsOf_ok h3 q, rv_str.mp h2]
      rfl
    | _ => unfold strsOf at e; cases e
variable {pins : List (Addr × Obj)} {σ : L2.St} {s : Shared}
mutual
theorem key_is (I : Inv X pins σ H s) : ∀ (d : D) (v : V) (u : Value) (k : NestedKey), RV X.K ρ H d v → RelV v u → keyOf d = some k → NestedIs s.heap k u
  | .non, v, u, k, h, r, e => by unfold RV at h; unfold keyOf at e; cases e; subst h; cases r; exact .none
  | .bl b, v, u, k, h, r, e => by unfold RV at h; unfold keyOf at e; cases e; subst h; cases r; exact .bool rfl
  | .int i, v, u, k, h, r, e => by unfold RV at h; unfold keyOf at e; cases e; subst h; obtain ⟨t, rfl⟩ := r; exact .int i t
  | .str x, v, u, k, h, r, e => by unfold RV at h; unfold keyOf at e; cases e; subst h; obtain ⟨t, rfl⟩ := r; exact .text x t
  | .tup ds, v, u, k, h, r, e => by
    unfold RV at h
    unfold keyOf at e
    obtain ⟨ks, e1, rfl⟩ := Option.map_eq_some_iff.mp e
    obtain ⟨a, vs, rfl, h1, h2⟩ := h
    cases r
    obtain ⟨its, rv, ⟨o, ho, hc, n, hd⟩, _⟩ := I.tuple h1
    exact .tup ho hc hd (by simpa using keys_is I ds vs its ks h2 rv e1)
  | .lf _, v, u, k, h, r, e => by unfold keyOf at e; cases e
  | .obj _, v, u, k, h, r, e => by unfold keyOf at e; cases e
theorem keys_is (I : Inv X pins σ H s) : ∀ (ds : List D) (vs : List V) (us : List Value) (ks : List NestedKey), RVs X.K ρ H ds vs → Vals vs us → keysOf ds = some ks → NestedAll s.heap ks us
  | [], vs, us, ks, h, r, e => by unfold RVs at h; unfold keysOf at e; cases e; subst h; cases r; exact .nil
  | d :: ds, vs, us, ks, h, r, e => by
    unfold RVs at h
    unfold keysOf at e
    obtain ⟨v, vr, rfl, h1, h2⟩ := h
    obtain ⟨k, e1, e2⟩ := bindo e
    obtain ⟨kr, e3, rfl⟩ := Option.map_eq_some_iff.mp e2
    cases r with
    | cons r1 r2 => exact .cons (key_is I d v _ k h1 r1 e1) (keys_is I ds vr _ kr h2 r2 e3)
end
theorem tupK_ok {k : NestedKey} (h : tupK k = true) : (∃ ks, k = .tup ks) ∧ k.depth ≤ 8 := by
  cases k with
  | tup ks => exact ⟨⟨ks, rfl⟩, of_decide_eq_true h⟩
  | _ => cases h
theorem each_n {h : Heap} : ∀ {ks : List NestedKey} {us : List Value}, NestedAll h ks us → ks.all tupK = true → PySem.W.EachIs (fun v k => IsN h k v) us ks
  | _, _, .nil, _ => .nil
  | k :: ks, u :: us, .cons r t, q => by
    rw [List.all_cons] at q
    obtain ⟨q1, q2⟩ := and2 q
    obtain ⟨⟨kk, rfl⟩, d⟩ := tupK_ok q1
    refine .cons ⟨?_, r, d⟩ (each_n t q2)
    cases r
    exact ⟨_, rfl⟩
end
section
variable {T : Tab} {cf : Nat → List D → Sto → Res D} {k : Nat} {N : List Str}
theorem s_fs {f : FS} {a : Ex} (ha : SE T cf k N a) : SE T cf k N (.fs f a) := by
  intro X sc e g h
  simp only [ck] at h
  split at h
  · rename_i x px z pz y pi p
    obtain ⟨h, h7⟩ := and2 h
    obtain ⟨h, h6⟩ := and2 h
    obtain ⟨h, h5⟩ := and2 h
    obtain ⟨h, h4⟩ := and2 h
    obtain ⟨h, h3⟩ := and2 h
    obtain ⟨h1, h2⟩ := and2 h
    obtain ⟨g1, g2, g3⟩ := g.gl h2
    obtain ⟨k1, k2, k3⟩ := g.gl h5
    have sa := ha X sc y g h7
    have hu := g.hu
    have hs : bootBuiltins z = some (.type "set") := by rw [of_decide_eq_true h4]; decide +kernel
    have inner := pe_callV (p := pz) (pos := pi) (.inr ⟨_, rfl⟩) (cr_setX g.calm (by omega)) k1 (g.blt z h6) hs (pa_r sa.ok sa.r) k3 k2 (ok_star sa.ok [] X.env) rfl
    have ext : ∀ {ρ : List Addr} {H : Hp} {st : Sto} {a : Addr} {o : HO}, H a = none → RS X.K ρ H st → Ext X.K ρ H ρ (upd H a o) ∧ RS X.K ρ (upd H a o) st := fun hn rs => ⟨Ext.laid hn, rs.laid hn⟩
    cases f with
    | sortset =>
      have hb : bootBuiltins x = some (.builtin "sorted") := by rw [of_decide_eq_true h1]; decide +kernel
      refine snd_mkR rfl rfl (pe_wk (pe_callV (.inl ⟨_, rfl⟩) (cr_sortX g.calm (by omega)) g1 (g.blt x h3) hb (pa_cons inner pa_nil rfl) g3 g2 rfl rfl) fun σ H Q ⟨ρ, l, s, rs, rl, hp⟩ => ?_)
      refine ⟨ρ, l, s, rs, rl, Post.bind bkRR hp fun d s1 ρ1 H1 v1 e1 rs1 r1 hq => ?_⟩
      obtain ⟨o, eo, hq⟩ := post_o hq
      unfold fsR at eo
      obtain ⟨ds, e2, e3⟩ := bindo eo
      split at e3
      · rename_i few
        obtain ⟨ss, e4, rfl⟩ := Option.map_eq_some_iff.mp e3
        obtain ⟨pl, vs, rfl, q1, q2⟩ := asL_ok rs1 r1 e2
        refine ⟨pl, vs, rfl, q1, by rw [q2.length]; exact few, .inl ⟨ss, strsOf_ok q2 e4, fun b L hn ll nd pm => ?_⟩⟩
        obtain ⟨x1, x2⟩ := ext (st := s1) (o := TSO X.prog X.w b L) hn rs1
        refine ⟨b, L, rfl, upd_same, ll, nd, fun p2 hn2 => ?_⟩
        rw [sort_perm pm]
        exact post_laid x2 (rvs_strs _) (Post.mono bkRR x1 hq) hn2
      · cases e3
    | lenset =>
      have hb : bootBuiltins x = some (.builtin "len") := by rw [of_decide_eq_true h1]; decide +kernel
      refine snd_mkR rfl rfl (pe_wk (pe_callV (.inl ⟨_, rfl⟩) cr_lenX g1 (g.blt x h3) hb (pa_cons inner pa_nil rfl) g3 g2 rfl rfl) fun σ H Q ⟨ρ, l, s, rs, rl, hp⟩ => ?_)
      refine ⟨ρ, l, s, rs, rl, Post.bind bkRR hp fun d s1 ρ1 H1 v1 e1 rs1 r1 hq => ?_⟩
      obtain ⟨o, eo, hq⟩ := post_o hq
      unfold fsR at eo
      obtain ⟨ds, e2, e3⟩ := bindo eo
      split at e3
      · rename_i few
        obtain ⟨pl, vs, rfl, q1, q2⟩ := asL_ok rs1 r1 e2
        simp only at e3
        split at e3
        · rename_i ss e4
          cases e3
          refine ⟨pl, vs, rfl, q1, by rw [q2.length]; exact few, .inl ⟨ss, strsOf_ok q2 e4, fun b L hn ll nd pm => ?_⟩⟩
          obtain ⟨x1, x2⟩ := ext (st := s1) (o := TSO X.prog X.w b L) hn rs1
          have pl2 := pm.length_eq
          rw [List.length_map] at pl2
          exact ⟨b, (uniq ss).length, rfl, by omega, .inl ⟨L, upd_same, pl2⟩, post_val x2 (Post.mono bkRR x1 hq) (rv_int.mpr rfl)⟩
        · obtain ⟨ks, e5, e6⟩ := bindo e3
          split at e6
          · rename_i all
            cases e6
            refine ⟨pl, vs, rfl, q1, by rw [q2.length]; exact few, .inr ⟨ks, fun pins σ s us I r => each_n (keys_is I ds vs us ks q2 r e5) all, fun b L hn ll pm => ?_⟩⟩
            obtain ⟨x1, x2⟩ := ext (st := s1) (o := NSO X.w b L) hn rs1
            have pl2 := pm.length_eq
            rw [List.length_map] at pl2
            exact ⟨b, (uniq ks).length, rfl, by omega, .inr ⟨L, upd_same, pl2⟩, post_val x2 (Post.mono bkRR x1 hq) (rv_int.mpr rfl)⟩
          · cases e6
      · cases e3
  · cases h
end
end Nv

set_option Elab.async false
set_option linter.all false
set_option maxRecDepth 100000
set_option autoImplicit false
set_option maxHeartbeats 4000000
/-! NvCp: comprehensions; all expressions. -/
namespace Nv
open PySem PySem.Spec PyProof.Rows L2
section
variable {T : Tab} {cf : Nat → List D → Sto → Res D} {k : Nat} {N : List Str}
theorem wipe_in {σ : L2.St} {i : Nat} : ∀ {vs : List Nat}, i ∈ vs → i < σ.length → (wipe σ vs)[i]? = some none
  | v :: vs, h, hl => by
    unfold wipe
    by_cases e : v = i
    · subst e
      rw [List.getElem?_set_self (by rw [wipe_length]; exact hl)]
    · rw [List.getElem?_set_ne e]
      rcases List.mem_cons.mp h with h | h
      · exact absurd h.symm e
      · exact wipe_in h hl
theorem wipe_eq {σ τ : L2.St} {vs : List Nat} (hl : σ.length = (wipe τ vs).length) (h : ∀ j, j ∉ vs → σ[j]? = (wipe τ vs)[j]?) : wipe σ vs = wipe τ vs := by
  have hl2 : σ.length = τ.length := by rw [hl, wipe_length]
  refine List.ext_getElem? fun j => ?_
  by_cases hj : j ∈ vs
  · by_cases hlt : j < τ.length
    · rw [wipe_in hj hlt, wipe_in hj (by rw [hl2]; exact hlt)]
    · rw [List.getElem?_eq_none (by rw [wipe_length, hl2]; omega), List.getElem?_eq_none (by rw [wipe_length]; omega)]
  · rw [wipe_out hj]; exact h j hj
theorem wipeL_length (l : Loc) : ∀ vs : List Nat, (wipeL l vs).length = l.length
  | [] => rfl
  | v :: vs => by unfold wipeL; rw [List.length_set, wipeL_length l vs]
theorem wipeL_some {l : Loc} {i : Nat} {x : D} : ∀ {vs : List Nat}, (wipeL l vs)[i]? = some (some x) → l[i]? = some (some x) ∧ i ∉ vs
  | [], h => ⟨h, by simp⟩
  | v :: vs, h => by
    unfold wipeL at h
    by_cases hi : v = i
    · subst hi
      by_cases hv : v < (wipeL l vs).length
      · rw [List.getElem?_set_self hv] at h; cases h
      · rw [List.getElem?_eq_none (by simpa using hv)] at h; cases h
    · rw [List.getElem?_set_ne hi] at h
      obtain ⟨h1, h2⟩ := wipeL_some h
      exact ⟨h1, by simp only [List.mem_cons, not_or]; exact ⟨fun e => hi e.symm, h2⟩⟩
theorem RL.wipe {K : PySem.W.Frag} {ρ : List Addr} {H : Hp} {σ : L2.St} {l : Loc} (h : RL K ρ H σ l) (vs : List Nat) : RL K ρ H (L2.wipe σ vs) (wipeL l vs) :=
  ⟨by rw [wipe_length, wipeL_length]; exact h.len, fun i d q => by
    obtain ⟨h1, h2⟩ := wipeL_some q
    obtain ⟨v, h3, h4⟩ := h.at_ i d h1
    exact ⟨v, by rw [wipe_out h2]; exact h3, h4⟩⟩
theorem pts_wk {X : Cx} {es : List Expr} {t t' : TT} (h : PTs X es t) (w : ∀ σ H Q, t' σ H Q → t σ H Q) : PTs X es t' := ⟨fun pins s σ H Q I q => h.run pins s σ H Q I (w σ H Q q)⟩
theorem stores_blk {X : Cx} {s : Shared} {H : Hp} {scope : Scope} {cl : List (Str × Addr)} {C : Addr} {fp : List Addr} : Stores scope (X.blk s H scope (compEnvC scope cl C X.env) fp) := by
  intro x hx
  have e : (X.blk s H scope (compEnvC scope cl C X.env) fp).env.scope = relS scope X.env.scope := rfl
  unfold locB at hx
  split at hx
  · rename_i q
    have q2 := lookup_relS_keep (sc := X.env.scope) (names := scope.names) (x := x) (k := .local) (by decide) q
    exact ⟨.inl (by rw [e]; exact q2), .inr (by rw [e]; exact q2)⟩
  · rename_i q
    have q2 := lookup_relS_keep (sc := X.env.scope) (names := scope.names) (x := x) (k := .cell) (by decide) q
    refine ⟨.inr (by rw [e]; exact q2), .inl ?_⟩
    show (scope.names.lookup x == some .cell) = true
    rw [q]
    rfl
  · cases hx
theorem post_ite2 {α β γ : Type} {K : PySem.W.Frag} {W : Wx} {R : Hp → List Addr → Hp → γ → β → Prop} {ρ : List Addr} {H : Hp} {Q : β → Hp → Prop} {c : Prop} {inst : Decidable c} {r : Res α} {f : α → Sto → Res γ} (h : Post K W R ρ H Q ((if c then r else .no).bind f)) : c ∧ Post K W R ρ H Q (r.bind f) := by
  by_cases hc : c
  · rw [if_pos hc] at h; exact ⟨hc, h⟩
  · rw [if_neg hc] at h; exact h.elim
theorem bind_assoc {α β γ : Type} (r : Res α) (f : α → Sto → Res β) (g : β → Sto → Res γ) : (r.bind f).bind g = r.bind fun a s => (f a s).bind g := by cases r <;> rfl
/-- the state ahead of a turn -/
def LcInv (K : PySem.W.Frag) (Q : VK) (tg : Tg) (its : Nv.Its) (c : M Bool) (e : M D) (own : List Nat) (σ : L2.St) (l : Loc) (ρ1 : List Addr) (H1 : Hp) (Dd : Addr) (i m : Nat) (H' : Hp) : Prop :=
  ∃ ρ' s' acc vs, Ext K ρ1 H1 ρ' H' ∧ RS K ρ' H' s' ∧ RL K ρ' H' (L2.wipe σ own) (wipeL l own) ∧ H' Dd = some (.lst vs) ∧ RVs K ρ' H' acc vs ∧ Dd ∉ ρ' ∧ i + m = its.ds.length ∧
    Post K W0 (rRR K) ρ1 H1 Q ((cpLoop tg its.src c e (wipeL l own) (its.ds.drop i) acc s').bind fun ys s2 => .ok (.l ys) s2)
theorem lc_turns {K : PySem.W.Frag} {Q : VK} {tg : Tg} {its : Nv.Its} {J : It} {c : M Bool} {e : M D} {own : List Nat} {σ : L2.St} {l : Loc} {ρ1 : List Addr} {H1 : Hp} {s1 : Sto} (hsl : ∀ j, j ∈ tg.slots → j ∈ own)
    (rs : RS K ρ1 H1 s1) (rl : RL K ρ1 H1 σ l) (ri : ItOk K ρ1 H1 its J) (hp : Post K W0 (rRR K) ρ1 H1 Q ((cpLoop tg its.src c e (wipeL l own) its.ds [] s1).bind fun ys s2 => .ok (.l ys) s2)) (Dd : Addr) (hD : H1 Dd = none) :
    ∃ W : Nat → Nat → Hp → Prop, (∃ m, W 0 m (upd H1 Dd (.lst []))) ∧ ∀ i m H, W i m H →
      (J.stop i H ∧ Q (.ref Dd) H) ∨ (J.go i H ∧ ∃ Nx : Hp → Prop, (∀ H', Nx H' → ∃ m', m' < m ∧ W (i + 1) m' H') ∧ ∀ x H', J.yld i H x H' → tTg K tg x (L2.wipe σ own) H' fun σ2 H2 => L2.wipe σ2 own = L2.wipe σ own ∧ tBb K W0 c σ2 H2 fun b H3 =>
        if b = true then tVv K W0 e σ2 H3 fun y H4 => ∃ acc, H4 Dd = some (.lst acc) ∧ acc.length < sizeLine ∧ Nx (upd H4 Dd (.lst (acc ++ [y]))) else Nx H3) := by
  refine ⟨LcInv K Q tg its c e own σ l ρ1 H1 Dd, ⟨its.ds.length, ?_⟩, ?_⟩
  · exact ⟨ρ1, s1, [], [], Ext.laid hD, rs.laid hD, (rl.mono (Ext.laid hD)).wipe own, upd_same, .nil_, rs.fresh hD, by omega, hp⟩
  · rintro i m H ⟨ρ', s', acc, vs, ex, rs', rl', hd, rv, hn, him, hq⟩
    by_cases hlt : i < its.ds.length
    · right
      have hdr : its.ds.drop i = its.ds[i] :: its.ds.drop (i + 1) := List.drop_eq_getElem_cons hlt
      rw [hdr] at hq
      unfold cpLoop at hq
      obtain ⟨so, hq⟩ := post_ite2 hq
      obtain ⟨t1, _⟩ := ri ρ' H s' ex rs' so i
      obtain ⟨go, yl⟩ := t1 its.ds[i] (List.getElem?_eq_getElem hlt)
      refine ⟨go, LcInv K Q tg its c e own σ l ρ1 H1 Dd (i + 1) (m - 1), fun H' w => ⟨m - 1, by omega, w⟩, fun x H2 hy => ?_⟩
      obtain ⟨ex2, rs2, rx⟩ := yl x H2 hy
      cases hb : bindT tg its.ds[i] (wipeL l own) with
      | none => rw [hb] at hq; exact hq.elim
      | some l1 =>
        rw [hb] at hq
        simp only at hq
        rw [bind_assoc] at hq
        refine ⟨ρ', wipeL l own, s', _, rs2, rl'.mono ex2, rx, l1, hb, fun σ2 rl2 hk hlen => ⟨wipe_eq hlen fun j hj => hk j fun z => hj (hsl j z), ?_⟩⟩
        refine ⟨ρ', l1, s', rs2, rl2, Post.bindB (ex.trans ex2) hq fun t s3 ρ3 H3 t' ex3 rs3 rt hq3 => ?_⟩
        cases rt
        have d3 : H3 Dd = some (.lst vs) := ex3.oth _ _ (ex2.oth _ _ hd hn) hn
        have n3 : Dd ∉ ρ3 := fun z => by
          rcases (ex2.trans ex3).new _ z with z | z
          · exact hn z
          · rw [hd] at z; cases z
        have e3 := (ex.trans ex2).trans ex3
        cases t with
        | false =>
          refine iteF ⟨ρ3, s3, acc, vs, e3, rs3, (rl'.mono ex2).mono ex3, d3, RVs.mono (ex2.trans ex3) _ _ rv, n3, by omega, ?_⟩
          rw [if_neg Bool.false_ne_true] at hq3
          exact hq3
        | true =>
          rw [if_pos rfl, bind_assoc] at hq3
          refine iteT ⟨ρ3, l1, s3, rs3, rl2.mono ex3, Post.bindB e3 hq3 fun y s4 ρ4 H4 yv ex4 rs4 ry hq4 => ?_⟩
          obtain ⟨hz, hq4⟩ := post_ite2 hq4
          have d4 : H4 Dd = some (.lst vs) := ex4.oth _ _ d3 n3
          have n4 : Dd ∉ ρ4 := fun z => by
            rcases ex4.new _ z with z | z
            · exact n3 z
            · rw [d3] at z; cases z
          have e4 := e3.trans ex4
          have rv4 := RVs.mono ((ex2.trans ex3).trans ex4) _ _ rv
          refine ⟨vs, d4, by rw [rv.length]; exact hz, ρ4, s4, acc ++ [y], vs ++ [yv], e4.poke hD d4, rs4.poke d4 n4, RL.poke d4 (((rl'.mono ex2).mono ex3).mono ex4), upd_same, (rv4.append (.one ry)).poke d4, n4, by omega, hq4⟩
    · left
      have hi : i = its.ds.length := by omega
      have hdr : its.ds.drop i = [] := List.drop_eq_nil_of_le (by omega)
      rw [hdr] at hq
      unfold cpLoop at hq
      obtain ⟨so, hq⟩ := post_ite2 hq
      obtain ⟨_, t2⟩ := ri ρ' H s' ex rs' so i
      exact ⟨t2 hi.symm, hq ρ' H (.ref Dd) ex rs' ⟨Dd, vs, rfl, hd, rv, hn, hD⟩⟩
theorem isNil_eq {t : Ex} (h : t.isNil = true) : t = .nil := by cases t <;> first | rfl | cases h
/-- the parts of a comprehension -/
theorem cp_parts {elt it c : Ex} {tg : Tg} {own : List Nat} (he : SE T cf k N elt) (hi : SE T cf k N it) (hc : SE T cf k N c) {X : Cx} {sc : Scope} {e : Expr} (g : Good T cf k N sc X) (h : (ck T N (.cp elt tg it c own)).e sc e = true) :
    ∃ x t i ifs scope p, e = .ListComp x [⟨t, i, ifs, 0⟩] scope p ∧ okE i = true ∧ PI X t i (tIi X.K W0 (den cf T.gc it).i) ∧ BlkOk X.N X.env.scope scope (ownOf N own) ∧ (ownOf N own).map (·.2) = own ∧ (∀ j, j ∈ tg.slots → j ∈ own) ∧
      (∀ (s : Shared) (H : Hp) (C : Addr) (cl : List (Str × Addr)) (fp : List Addr), PG (X.blk s H scope (compEnvC scope cl C X.env) fp) t (tTg X.K tg)) ∧
      (∀ (s : Shared) (H : Hp) (C : Addr) (cl : List (Str × Addr)) (fp : List Addr), PTs (X.blk s H scope (compEnvC scope cl C X.env) fp) ifs (tBb X.K W0 (den cf T.gc c).b)) ∧
      ∀ (s : Shared) (H : Hp) (C : Addr) (cl : List (Str × Addr)) (fp : List Addr), PE (X.blk s H scope (compEnvC scope cl C X.env) fp) x (tVv X.K W0 (den cf T.gc elt).v) := by
  simp only [ck] at h
  split at h
  · rename_i x t i ifs scope p
    obtain ⟨h, h7⟩ := and2 h
    obtain ⟨h, h6⟩ := and2 h
    obtain ⟨h, h5⟩ := and2 h
    obtain ⟨h, h4⟩ := and2 h
    obtain ⟨h, h3⟩ := and2 h
    obtain ⟨h, h2⟩ := and2 h
    obtain ⟨h1, htg⟩ := and2 h
    have si := hi X sc i g h1
    refine ⟨x, t, i, ifs, scope, p, rfl, si.ok, si.i t htg, by rw [g.nm, g.sc]; exact blkOk_by h2, of_decide_eq_true h3, fun j hj => ?_, fun s H C cl fp => ?_, fun s H C cl fp => ?_, fun s H C cl fp => ?_⟩
    · have := List.all_eq_true.mp h5 j hj
      simpa using this
    · exact (pg_any (X := X.blk s H scope (compEnvC scope cl C X.env) fp) (N := N) (scw := scope) g.nm g.nd g.calm stores_blk tg).1 t h4
    · split at h6
      · cases isNil_eq h6
        exact pts_wk pts_nil fun σ H Q ⟨ρ, l, s, rs, rl, hp⟩ => hp ρ H true .refl rs rfl
      · exact pts_one (hc _ _ _ (g.blk s H scope cl C fp) (and2 h6).2).b
      · cases h6
    · exact (he _ _ _ (g.blk s H scope cl C fp) h7).v
  · cases h
theorem s_cp {elt it c : Ex} {tg : Tg} {own : List Nat} (he : SE T cf k N elt) (hi : SE T cf k N it) (hc : SE T cf k N c) : SE T cf k N (.cp elt tg it c own) := by
  intro X sc e g h
  obtain ⟨x, t, i, ifs, scope, p, rfl, oki, pi, blk, hown, hsl, hg, ht, hx⟩ := cp_parts he hi hc g h
  have pe := pe_lc (pos := p) g.calm (by rw [g.nm]; exact g.nd) pi blk hg ht hx (ok_fold oki X.env)
  rw [hown] at pe
  refine snd_mkR rfl rfl (pe_wk pe fun σ H Q ⟨ρ, l, s, rs, rl, hp⟩ => ?_)
  exact ⟨ρ, l, s, rs, rl, Post.bind bkRR hp fun its s1 ρ1 H1 J e1 rs1 ri h1 => fun Dd hD => lc_turns hsl rs1 (rl.mono e1) ri h1 Dd hD⟩
theorem ck_lc {t : Ex} {sc : Scope} {a : Expr} {b : List Comprehension} {c : Scope} {d : Pos} (h : (ck T N t).e sc (.ListComp a b c d) = true) : ∃ elt tg it c own, t = .cp elt tg it c own := by
  cases t <;> first | exact ⟨_, _, _, _, _, rfl⟩ | exact Bool.noConfusion (show false = true from h)
theorem no_e {t : Ex} (h : ∀ (sc : Scope) (e : Expr), (ck T N t).e sc e = false) : SE T cf k N t := fun X sc e g q => by rw [h] at q; cases q
theorem no_l {t : Ex} (h : ∀ (sc : Scope) (e : List Expr), (ck T N t).l sc e = false) : SA T cf k N t := fun X sc e g q => by rw [h] at q; cases q
/-- ALL EXPRESSIONS -/
theorem snd_all (t : Ex) : SE T cf k N t ∧ SA T cf k N t := by
  induction t with
  | nil => exact ⟨no_e fun _ _ => rfl, s_nil⟩
  | cons a b ha hb => exact ⟨no_e fun _ _ => rfl, s_cons ha.1 hb.2⟩
  | var i => exact ⟨s_var i, no_l fun _ _ => rfl⟩
  | int i => exact ⟨s_int i, no_l fun _ _ => rfl⟩
  | str i => exact ⟨s_str i, no_l fun _ _ => rfl⟩
  | bl i => exact ⟨s_bl i, no_l fun _ _ => rfl⟩
  | non => exact ⟨s_non, no_l fun _ _ => rfl⟩
  | gc i => exact ⟨s_gc i, no_l fun _ _ => rfl⟩
  | tup a ha => exact ⟨s_tup ha.2, no_l fun _ _ => rfl⟩
  | lst a ha => exact ⟨s_lst ha.2, no_l fun _ _ => rfl⟩
  | bin o a b ha hb => exact ⟨s_bin ha.1 hb.1, no_l fun _ _ => rfl⟩
  | neg a ha => exact ⟨s_neg ha.1, no_l fun _ _ => rfl⟩
  | nt a ha => exact ⟨s_nt ha.1, no_l fun _ _ => rfl⟩
  | cmp o a b ha hb => exact ⟨s_cmp ha.1 hb.1, no_l fun _ _ => rfl⟩
  | and a b ha hb => exact ⟨s_and ha.1 hb.1, no_l fun _ _ => rfl⟩
  | or a b ha hb => exact ⟨s_or ha.1 hb.1, no_l fun _ _ => rfl⟩
  | ife c a b hc ha hb => exact ⟨s_ife hc.1 ha.1 hb.1, no_l fun _ _ => rfl⟩
  | call f es he => exact ⟨s_call he.2, no_l fun _ _ => rfl⟩
  | b1 f a ha => exact ⟨s_b1 ha.1, no_l fun _ _ => rfl⟩
  | b2 f a b ha hb => exact ⟨s_b2 ha.1 hb.1, no_l fun _ _ => rfl⟩
  | i1 f a ha => exact ⟨s_i1 ha.1, no_l fun _ _ => rfl⟩
  | i2 f a b ha hb => exact ⟨s_i2 ha.1 hb.1, no_l fun _ _ => rfl⟩
  | isin a t ha => exact ⟨s_isin ha.1, no_l fun _ _ => rfl⟩
  | fs f a ha => exact ⟨s_fs ha.1, no_l fun _ _ => rfl⟩
  | m0 m o ho => exact ⟨s_m0 ho.1, no_l fun _ _ => rfl⟩
  | m1 m o a ho ha => exact ⟨s_m1 ho.1 ha.1, no_l fun _ _ => rfl⟩
  | ix a b ha hb => exact ⟨s_ix ha.1 hb.1, no_l fun _ _ => rfl⟩
  | sl a lo hi ha hl hh => exact ⟨s_sl ha.1 hl.1 hh.1, no_l fun _ _ => rfl⟩
  | cp elt tg it c own he hi hc => exact ⟨s_cp he.1 hi.1 hc.1, no_l fun _ _ => rfl⟩
end
end Nv

set_option Elab.async false
set_option linter.all false
set_option maxRecDepth 100000
set_option autoImplicit false
set_option maxHeartbeats 4000000
/-! NvSt: statements, functions. -/
namespace Nv
open PySem PySem.Spec PyProof.Rows L2
/-- what is wanted behind a statement's run -/
def PostS (K : PySem.W.Frag) (W : Wx) (ρ : List Addr) (H : Hp) (D : Ends) : Res (Fl × Nv.Loc) → Prop
  | .ok (.nx, l) s => ∀ ρ' H' σ', Ext K ρ H ρ' H' → RS K ρ' H' s → RL K ρ' H' σ' l → D.nx σ' H'
  | .ok (.bk, l) s => ∀ ρ' H' σ', Ext K ρ H ρ' H' → RS K ρ' H' s → RL K ρ' H' σ' l → D.bk σ' H'
  | .ok (.ct, l) s => ∀ ρ' H' σ', Ext K ρ H ρ' H' → RS K ρ' H' s → RL K ρ' H' σ' l → D.ct σ' H'
  | .ok (.rt d, _) s => ∀ ρ' H' v, Ext K ρ H ρ' H' → RS K ρ' H' s → RV K ρ' H' d v → D.rt v H'
  | .ex x s => ∀ ρ' H', Ext K ρ H ρ' H' → RS K ρ' H' s → W ρ' H' x
  | .no => False
def tSs (K : PySem.W.Frag) (W : Wx) (m : SM) : TS := fun D σ H => ∃ ρ l s, RS K ρ H s ∧ RL K ρ H σ l ∧ PostS K W ρ H D (m l s)
section
variable {K : PySem.W.Frag} {W : Wx} {ρ ρ1 : List Addr} {H H1 : Hp} {D : Ends}
theorem PostS.mono (e : Ext K ρ H ρ1 H1) : ∀ {r : Res (Fl × Nv.Loc)}, PostS K W ρ H D r → PostS K W ρ1 H1 D r
  | .ok (.nx, l) s, h => fun ρ' H' σ' e' rs rl => h ρ' H' σ' (e.trans e') rs rl
  | .ok (.bk, l) s, h => fun ρ' H' σ' e' rs rl => h ρ' H' σ' (e.trans e') rs rl
  | .ok (.ct, l) s, h => fun ρ' H' σ' e' rs rl => h ρ' H' σ' (e.trans e') rs rl
  | .ok (.rt d, l) s, h => fun ρ' H' σ' e' rs rl => h ρ' H' σ' (e.trans e') rs rl
  | .ex x s, h => fun ρ' H' e' rs => h ρ' H' (e.trans e') rs
  | .no, h => h
theorem PostS.bind {α β : Type} {R : Hp → List Addr → Hp → α → β → Prop} {Q1 : β → Hp → Prop} {r : Res α} {f : α → Sto → Res (Fl × Nv.Loc)} (h : PostS K W ρ H D (r.bind f))
    (k : ∀ a s1 ρ1 H1 v, Ext K ρ H ρ1 H1 → RS K ρ1 H1 s1 → R H ρ1 H1 a v → PostS K W ρ1 H1 D (f a s1) → Q1 v H1) : Post K W R ρ H Q1 r := by
  cases r with
  | ok a s => exact fun ρ' H' v e rs rr => k a s ρ' H' v e rs rr (PostS.mono e h)
  | ex x s => exact h
  | no => exact h
theorem alloc_post {Q : VK} {r : Res RD} (hp : Post K W (rRV K) ρ H Q (allocR r)) : Post K W (rRR K) ρ H Q r := by
  cases r with
  | no => exact hp
  | ex x s1 => exact hp
  | ok a s1 =>
    cases a with
    | d x => exact fun ρ1 H1 v e1 rs1 r1 => hp ρ1 H1 v e1 rs1 r1
    | l xs =>
      intro ρ1 H1 v e1 rs1 r1
      obtain ⟨a, vs, rfl, h1, h2, h3, h4⟩ := r1
      refine hp (ρ1 ++ [a]) H1 (.ref a) (e1.up h4) (rs1.up h1 h3 h2) ?_
      show RV _ _ _ _ _
      unfold RV
      exact ⟨a, rfl, by rw [← rs1.len, List.getElem?_append_right (Nat.le_refl _), Nat.sub_self]; rfl⟩
end
structure GoodS (T : Tab) (cf : Nat → List D → Sto → Res D) (k : Nat) (N : List Str) (sc : Scope) (X : Cx) : Prop where
  g : Good T cf k N sc X
  st : Stores sc X
  po : PassesOwn (model X.prog X.w) X.A X.env X.xe
  kind : X.env.scope.kind = .function
section
variable {T : Tab} {cf : Nat → List D → Sto → Res D} {k : Nat} {N : List Str}
def SS (T : Tab) (cf : Nat → List D → Sto → Res D) (k : Nat) (N : List Str) (t : Sm) : Prop :=
  ∀ (X : Cx) (sc : Scope) (s : Stmt), GoodS T cf k N sc X → (ckS T N t).s sc s = true → PS X s (tSs X.K W0 (sden cf T.gc t))
def SL (T : Tab) (cf : Nat → List D → Sto → Res D) (k : Nat) (N : List Str) (t : Sm) : Prop :=
  ∀ (X : Cx) (sc : Scope) (ss : List Stmt), GoodS T cf k N sc X → (ckS T N t).l sc ss = true → PSs X ss (tSs X.K W0 (sden cf T.gc t))
theorem ps_wk {X : Cx} {s : Stmt} {t t' : TS} (h : PS X s t) (w : ∀ D σ H, t' D σ H → t D σ H) : PS X s t' := ⟨fun pins s σ H D I q => h.run pins s σ H D I (w D σ H q)⟩
theorem pss_wk {X : Cx} {s : List Stmt} {t t' : TS} (h : PSs X s t) (w : ∀ D σ H, t' D σ H → t D σ H) : PSs X s t' := ⟨fun pins s σ H D I q => h.run pins s σ H D I (w D σ H q)⟩
theorem t_nil : SL T cf k N .nil := by
  intro X sc ss g h
  simp only [ckS] at h
  split at h
  · exact pss_wk pss_nil fun D σ H ⟨ρ, l, s, rs, rl, hp⟩ => hp ρ H σ .refl rs rl
  · cases h
/-- the run of the first statement, the second behind it -/
theorem seq_post {K : PySem.W.Frag} {ρ : List Addr} {H : Hp} {D : Ends} {u : TS} {r : Res (Fl × Nv.Loc)} {f : Nv.Loc → Sto → Res (Fl × Nv.Loc)} (hu : ∀ ρ1 H1 σ1 l1 s1, RS K ρ1 H1 s1 → RL K ρ1 H1 σ1 l1 → PostS K W0 ρ1 H1 D (f l1 s1) → u D σ1 H1)
    (h : PostS K W0 ρ H D (r.bind fun fl s1 => match fl.1 with | .nx => f fl.2 s1 | x => .ok (x, fl.2) s1)) : PostS K W0 ρ H { D with nx := u D } r := by
  cases r with
  | ok a s =>
    obtain ⟨fl, l⟩ := a
    cases fl with
    | nx => exact fun ρ' H' σ' e rs rl => hu ρ' H' σ' l s rs rl (PostS.mono e h)
    | bk => exact h
    | ct => exact h
    | rt d => exact h
  | ex x s => exact h
  | no => exact h
theorem t_cons {a b : Sm} (ha : SS T cf k N a) (hb : SL T cf k N b) : SL T cf k N (.cons a b) := by
  intro X sc ss g h
  simp only [ckS] at h
  split at h
  · rename_i s r
    obtain ⟨h1, h2⟩ := and2 h
    refine pss_wk (pss_cons (ha X sc s g h1) (hb X sc r g h2)) fun D σ H ⟨ρ, l, s, rs, rl, hp⟩ => ?_
    exact ⟨ρ, l, s, rs, rl, seq_post (fun ρ1 H1 σ1 l1 s1 rs1 rl1 q => ⟨ρ1, l1, s1, rs1, rl1, q⟩) hp⟩
  · cases h
theorem t_ex {e : Ex} : SS T cf k N (.ex e) := by
  intro X sc s g h
  simp only [ckS] at h
  split at h
  · rename_i x p
    obtain ⟨h1, h2⟩ := and2 h
    have se := (snd_all e).1 X sc x g.g h2
    refine ps_wk (ps_expr se.r (ok_swap se.ok (by simpa using h1) _ _ _)) fun D σ H ⟨ρ, l, s, rs, rl, hp⟩ => ?_
    exact ⟨ρ, l, s, rs, rl, PostS.bind hp fun a s1 ρ1 H1 v e1 rs1 r1 h1 => h1 ρ1 H1 σ .refl rs1 (rl.mono e1)⟩
  · cases h
theorem t_ret {e : Ex} : SS T cf k N (.ret e) := by
  intro X sc s g h
  simp only [ckS] at h
  split at h
  · rename_i x p
    have se := (snd_all e).1 X sc x g.g h
    refine ps_wk (ps_ret se.v) fun D σ H ⟨ρ, l, s, rs, rl, hp⟩ => ?_
    exact ⟨ρ, l, s, rs, rl, PostS.bind hp fun a s1 ρ1 H1 v e1 rs1 r1 h1 => h1 ρ1 H1 v .refl rs1 r1⟩
  · cases h
theorem t_retN : SS T cf k N .retN := by
  intro X sc s g h
  simp only [ckS] at h
  split at h
  · exact ps_wk ps_retN fun D σ H ⟨ρ, l, s, rs, rl, hp⟩ => hp ρ H _ .refl rs (rv_non.mpr rfl)
  · cases h
theorem t_brk : SS T cf k N .brk := by
  intro X sc s g h
  simp only [ckS] at h
  split at h
  · exact ps_wk ps_break fun D σ H ⟨ρ, l, s, rs, rl, hp⟩ => hp ρ H σ .refl rs rl
  · cases h
theorem t_cnt : SS T cf k N .cnt := by
  intro X sc s g h
  simp only [ckS] at h
  split at h
  · exact ps_wk ps_continue fun D σ H ⟨ρ, l, s, rs, rl, hp⟩ => hp ρ H σ .refl rs rl
  · cases h
theorem t_pass : SS T cf k N .pass := by
  intro X sc s g h
  simp only [ckS] at h
  split at h
  · exact ps_wk ps_pass fun D σ H ⟨ρ, l, s, rs, rl, hp⟩ => hp ρ H σ .refl rs rl
  · exact ps_wk ps_doc fun D σ H ⟨ρ, l, s, rs, rl, hp⟩ => hp ρ H σ .refl rs rl
  · cases h
theorem t_ifs {c : Ex} {a b : Sm} (ha : SL T cf k N a) (hb : SL T cf k N b) : SS T cf k N (.ifs c a b) := by
  intro X sc s g h
  simp only [ckS] at h
  split at h
  · rename_i x y z p
    obtain ⟨h, h3⟩ := and2 h
    obtain ⟨h1, h2⟩ := and2 h
    have sc' := (snd_all c).1 X sc x g.g h1
    refine ps_wk (ps_if sc'.b (ha X sc y g h2) (hb X sc z g h3)) fun D σ H ⟨ρ, l, s, rs, rl, hp⟩ => ?_
    refine ⟨ρ, l, s, rs, rl, PostS.bind hp fun t s1 ρ1 H1 v e1 rs1 r1 h1 => ?_⟩
    cases r1
    cases t with
    | true => exact iteT ⟨ρ1, l, s1, rs1, rl.mono e1, h1⟩
    | false => exact iteF ⟨ρ1, l, s1, rs1, rl.mono e1, h1⟩
  · cases h
/-! assignments -/
theorem sw_none {t x : Expr} {env : Env} (ht : okE t = true) (h : (match t with | .Name .. => true | .Subscript .. => true | _ => (match x with | .Tuple .. => false | _ => true)) = true) : swappedStores [t] x env = pure none := by
  cases t with
  | Name _ _ => rfl
  | Subscript _ _ _ => rfl
  | Tuple _ _ _ => cases x <;> first | rfl | cases h
  | List _ _ => cases x <;> first | rfl | cases h
  | _ => rfl
theorem tgt_post {K : PySem.W.Frag} {ρ ρ1 : List Addr} {H H1 : Hp} {D' : Ends} {tg : Tg} {σ : L2.St} {l : Nv.Loc} {s1 : Sto} {d : Nv.D} {v : V} (e1 : Ext K ρ H ρ1 H1) (rs1 : RS K ρ1 H1 s1) (rl : RL K ρ H σ l) (r1 : RV K ρ1 H1 d v)
    (h : PostS K W0 ρ1 H1 D' (match bindT tg d l with | some l1 => .ok (.nx, l1) s1 | none => .no)) : tTg K tg v σ H1 D'.nx := by
  cases hb : bindT tg d l with
  | none => rw [hb] at h; exact h.elim
  | some l1 =>
    rw [hb] at h
    exact ⟨ρ1, l, s1, d, rs1, rl.mono e1, r1, l1, hb, fun σ' rl' _ _ => h ρ1 H1 σ' .refl rs1 rl'⟩
theorem swapB_false {sc : Scope} {t x : Expr} {X : Cx} (hs : X.env.scope = sc) (hx : okE x = true) (h : swapB sc t x = some false) (n : Nat) : swapsWith x (some t) n X.env = pure false := by
  cases x with
  | ListComp a b c d =>
    unfold swapB at h
    simp only at h
    split at h
    · rename_i y py
      split at h
      · split at h <;> cases h
      · rename_i hn
        unfold swapsWith
        have : (X.env.kindOf y == some NameKind.local) = false := by
          show (X.env.scope.names.lookup y == some NameKind.local) = false
          rw [hs]
          exact beq_eq_false_iff_ne.mpr hn
        simp only [this, Bool.and_false, Bool.false_and]
    · rename_i hn
      cases t <;> first | rfl | exact absurd rfl (hn _ _)
  | _ => exact ok_swap hx rfl _ _ _
theorem t_set {tg : Tg} {e : Ex} : SS T cf k N (.set tg e) := by
  intro X sc s g h
  simp only [ckS] at h
  split at h
  · rename_i t x p
    obtain ⟨h, h4⟩ := and2 h
    obtain ⟨h, h3⟩ := and2 h
    obtain ⟨h1, h2⟩ := and2 h
    have se := (snd_all e).1 X sc x g.g h2
    have pg := (pg_any (X := X) (N := N) (scw := sc) g.g.nm g.g.nd g.g.calm g.st tg).1 t h1
    have hw : swappedStores [t] x X.env = pure none := by
      refine sw_none (ckT_ok h1) ?_
      cases tg with
      | v i =>
        cases t with
        | Name _ _ => rfl
        | _ => simp [ckT] at h1
      | n => cases t <;> first | rfl | exact h3
      | c a b => cases t <;> first | rfl | exact h3
    cases hsw : swapB sc t x with
    | none => rw [hsw] at h4; cases h4
    | some b =>
      cases b with
      | false =>
        refine ps_wk (ps_asg se.v pg (swapB_false g.g.sc se.ok hsw p.line) hw (by rw [assignEach_ok (ckT_ok h1)]; rfl)) fun D σ H ⟨ρ, l, s, rs, rl, hp⟩ => ?_
        exact ⟨ρ, l, s, rs, rl, PostS.bind hp fun d s1 ρ1 H1 v e1 rs1 r1 h1 => tgt_post e1 rs1 rl r1 h1⟩
      | true =>
        obtain ⟨a, b, c, d, rfl⟩ : ∃ a b c d, x = .ListComp a b c d := by
          cases x <;> first | exact ⟨_, _, _, _, rfl⟩ | exact Bool.noConfusion (Option.some.inj (show some false = some true from hsw))
        obtain ⟨elt, tg2, it, cc, own, rfl⟩ := ck_lc h2
        obtain ⟨x, t2, i, ifs, scope, pp, e0, oki, pi, blk, hown, hsl, hg, ht, hx⟩ := cp_parts (snd_all elt).1 (snd_all it).1 (snd_all cc).1 g.g h2
        cases e0
        cases tg with
        | n => cases t <;> first | cases hsw | (simp [ckT] at h1)
        | c _ _ => cases t <;> first | cases hsw | (simp [ckT] at h1)
        | v i0 =>
          cases t with
          | Name y py =>
            unfold swapB at hsw
            simp only at hsw
            split at hsw
            · rename_i hy
              split at hsw
              · rename_i hc
                have h1' : (decide (N[i0]? = some y) && locB sc y) = true := by simpa [ckT] using h1
                have hy2 : X.env.scope.names.lookup y = some .local := by rw [g.g.sc]; exact hy
                have hkind : X.env.scope.kind = .function := g.kind
                have pe := ps_setLc (i := i0) (y := y) (py := py) (pos := d) (spos := p) g.g.calm (by rw [g.g.nm]; exact g.g.nd) (by rw [g.g.nm]; exact of_decide_eq_true (and2 h1').1) hy2 (sw_true hkind hy2 hc.1 hc.2) pi blk hg ht hx (ok_fold oki X.env)
                rw [hown] at pe
                refine ps_wk pe fun D σ H ⟨ρ, l, s, rs, rl, hp⟩ => ?_
                have hp : PostS X.K W0 ρ H D ((allocR (((den cf T.gc it).i l s).bind fun its s1 => (cpLoop tg2 its.src (den cf T.gc cc).b (den cf T.gc elt).v (wipeL l own) its.ds [] s1).bind fun ys s2 => .ok (.l ys) s2)).bind fun d s1 => match bindT (.v i0) d l with
                  | some l1 => .ok (.nx, l1) s1
                  | none => .no) := hp
                have hq : Post X.K W0 (rRR X.K) ρ H (fun v H' => gName i0 v σ H' D.nx) (((den cf T.gc it).i l s).bind fun its s1 => (cpLoop tg2 its.src (den cf T.gc cc).b (den cf T.gc elt).v (wipeL l own) its.ds [] s1).bind fun ys s2 => .ok (.l ys) s2) := by
                  refine alloc_post (PostS.bind hp fun dd s1 ρ1 H1 v e1 rs1 r1 h1 => ?_)
                  cases hb : bindT (.v i0) dd l with
                  | none => rw [hb] at h1; exact h1.elim
                  | some l1 =>
                    rw [hb] at h1
                    have hb : (if i0 < l.length then some (l.set i0 (some dd)) else none) = some l1 := by simpa [bindT] using hb
                    split at hb
                    · cases hb
                      exact h1 ρ1 H1 _ .refl rs1 ((rl.mono e1).set r1)
                    · cases hb
                exact ⟨ρ, l, s, rs, rl, Post.bind bkRR hq fun its s1 ρ1 H1 J e1 rs1 ri h1 => fun Dd hD => lc_turns hsl rs1 (rl.mono e1) ri h1 Dd hD⟩
              · cases hsw
            · cases hsw
          | _ => simp [ckT] at h1
  · cases h

theorem sub_ok {y : Expr} (h : okE y = true) (x : Expr) (p : Pos) (env : Env) : ∀ v, assign (.Subscript x y p) env v = (do
      let ov ← holding [v] (eval x env)
      let iv ← holding [v, ov] (eval y env)
      standAt p
      holding [v, ov, iv] (setItem ov iv v)
      release [v, ov, iv] []) := by
  intro v
  cases y <;> first | rfl | cases h
theorem setR_ex {p k d : Nv.D} {s s' : Sto} {x : Nv.D} {P : Prop} (h : setR p k d s = .ex x s') : P := by
  unfold setR at h
  split at h
  · split at h
    · split at h <;> cases h
    · cases h
  · cases h
theorem t_setI {o i e : Ex} : SS T cf k N (.setI o i e) := by
  intro X sc s g h
  simp only [ckS] at h
  split at h
  · rename_i x y p1 z p2
    obtain ⟨h, h3⟩ := and2 h
    obtain ⟨h1, h2⟩ := and2 h
    have so := (snd_all o).1 X sc x g.g h1
    have si := (snd_all i).1 X sc y g.g h2
    have se := (snd_all e).1 X sc z g.g h3
    have hsw : swapsWith z (some (.Subscript x y p1)) p2.line X.env = pure false := by
      cases hz : z with
      | ListComp a b c d => rfl
      | _ => rw [← hz]; exact ok_swap se.ok (by rw [hz]; rfl) _ _ _
    refine ps_wk (ps_asg se.v (pg_sub so.v si.v set_any (sub_ok si.ok x p1 X.env)) hsw rfl rfl) fun D σ H ⟨ρ, l, s, rs, rl, hp⟩ => ?_
    refine ⟨ρ, l, s, rs, rl, PostS.bind hp fun d s1 ρ1 H1 v e1 rs1 r1 h1 => ?_⟩
    refine ⟨ρ1, l, s1, rs1, rl.mono e1, PostS.bind h1 fun p s2 ρ2 H2 v2 e2 rs2 r2 h2 => ?_⟩
    refine ⟨ρ2, l, s2, rs2, (rl.mono e1).mono e2, PostS.bind h2 fun kk s3 ρ3 H3 v3 e3 rs3 r3 h3 => ?_⟩
    refine ⟨ρ3, s3, p, kk, d, rs3, RV.mono e3 _ _ r2, r3, RV.mono (e2.trans e3) _ _ r1, ?_⟩
    cases hs : setR p kk d s3 with
    | no => rw [hs] at h3; exact h3.elim
    | ex x s => rw [hs] at h3; exact setR_ex hs
    | ok a s4 =>
      rw [hs] at h3
      exact fun H' e4 rs4 => h3 ρ3 H' σ e4 rs4 ((((rl.mono e1).mono e2).mono e3).mono e4)
  · cases h
def rAug (K : PySem.W.Frag) (o : Bop) : TIp := fun x y H Q => (∃ i j, x = .int i ∧ y = .int j ∧ ((o = .add ∧ Q (.int (i + j)) H) ∨ (o = .sub ∧ Q (.int (i - j)) H))) ∨ ∃ i j, x = .str i ∧ y = .str j ∧ o = .add ∧ i.length + j.length ≤ sizeLine ∧ Q (.str (i ++ j)) H
theorem ip_aug {X : Cx} (o : Bop) : PIp X o.op (rAug X.K o) := by
  intro pins s σ H x y v u Q I r1 r2 h
  rcases h with ⟨i, j, rfl, rfl, ⟨rfl, q⟩ | ⟨rfl, q⟩⟩ | ⟨i, j, rfl, rfl, rfl, hz, q⟩
  · exact ip_add pins s σ H _ _ v u Q I r1 r2 ⟨i, j, rfl, rfl, q⟩
  · exact ip_sub pins s σ H _ _ v u Q I r1 r2 ⟨i, j, rfl, rfl, q⟩
  · exact iop_add_str pins s σ H _ _ v u Q I r1 r2 ⟨i, j, rfl, rfl, hz, q⟩
theorem t_aug {i : Nat} {o : Bop} {e : Ex} : SS T cf k N (.aug i o e) := by
  intro X sc s g h
  simp only [ckS] at h
  split at h
  · rename_i x p1 op z p2
    obtain ⟨h, h4⟩ := and2 h
    obtain ⟨h, h3⟩ := and2 h
    obtain ⟨h1, h2⟩ := and2 h
    cases of_decide_eq_true h1
    have se := (snd_all e).1 X sc z g.g h4
    obtain ⟨l1, l2⟩ := g.st x h3
    refine ps_wk (ps_aug (i := i) (by rw [g.g.nm]; exact g.g.nd) (by rw [g.g.nm]; exact of_decide_eq_true h2) l1 se.r (ip_aug o) l2) fun D σ H ⟨ρ, l, s, rs, rl, hp⟩ => ?_
    have hp : PostS X.K W0 ρ H D (match l[i]? with
      | some (some x) => ((den cf T.gc e).r l s).bind fun y s1 => (ofO (augR o x y) s1).bind fun d s2 => .ok (.nx, l.set i (some d)) s2
      | _ => .no) := hp
    split at hp
    · rename_i d hd
      obtain ⟨v, h5, h6⟩ := rl.at_ i d hd
      refine ⟨v, h5, ρ, l, s, rs, rl, PostS.bind hp fun y s1 ρ1 H1 yv e1 rs1 r1 h1 => ?_⟩
      have h6 := RV.mono e1 _ _ h6
      cases ha : augR o d y with
      | none => rw [ha] at h1; exact h1.elim
      | some d' =>
        rw [ha] at h1
        have fin : ∀ v', RV X.K ρ1 H1 d' v' → D.nx (σ.set i (some v')) H1 := fun v' r' => h1 ρ1 H1 _ .refl rs1 ((rl.mono e1).set r')
        unfold augR at ha
        split at ha
        · cases ha
          exact .inl ⟨_, _, rv_int.mp h6, rr_int r1, .inl ⟨rfl, fin _ (rv_int.mpr rfl)⟩⟩
        · cases ha
          exact .inl ⟨_, _, rv_int.mp h6, rr_int r1, .inr ⟨rfl, fin _ (rv_int.mpr rfl)⟩⟩
        · split at ha
          · rename_i hz
            cases ha
            exact .inr ⟨_, _, rv_str.mp h6, rr_str r1, rfl, hz, fin _ (rv_str.mpr rfl)⟩
          · cases ha
        · cases ha
    · exact hp.elim
  · cases h
/-! loops -/
/-- a turn's end -/
theorem turn_post {K : PySem.W.Frag} {ρ : List Addr} {H : Hp} {D : Ends} {Nx : L2.St → Hp → Prop} {r : Res (Fl × Nv.Loc)} {f : Nv.Loc → Sto → Res (Fl × Nv.Loc)} (hn : ∀ ρ1 H1 σ1 l1 s1, Ext K ρ H ρ1 H1 → RS K ρ1 H1 s1 → RL K ρ1 H1 σ1 l1 → PostS K W0 ρ1 H1 D (f l1 s1) → Nx σ1 H1)
    (h : PostS K W0 ρ H D (r.bind fun fl s1 => match fl.1 with
      | .nx => f fl.2 s1
      | .ct => f fl.2 s1
      | .bk => .ok (.nx, fl.2) s1
      | .rt d => .ok (.rt d, fl.2) s1)) : PostS K W0 ρ H { D with nx := Nx, ct := Nx, bk := D.nx } r := by
  cases r with
  | ok a s =>
    obtain ⟨fl, l⟩ := a
    cases fl with
    | nx => exact fun ρ' H' σ' e rs rl => hn ρ' H' σ' l s e rs rl (PostS.mono e h)
    | ct => exact fun ρ' H' σ' e rs rl => hn ρ' H' σ' l s e rs rl (PostS.mono e h)
    | bk => exact h
    | rt d => exact h
  | ex x s => exact h
  | no => exact h
theorem t_wh {c : Ex} {b : Sm} (hb : SL T cf k N b) : SS T cf k N (.wh c b) := by
  intro X sc s g h
  simp only [ckS] at h
  split at h
  · rename_i x y p
    obtain ⟨h1, h2⟩ := and2 h
    have sc' := (snd_all c).1 X sc x g.g h1
    refine ps_wk (ps_while g.po sc'.b (hb X sc y g h2)) fun D σ H ⟨ρ, l, s, rs, rl, hp⟩ => ?_
    refine ⟨fun m σ H => ∃ ρ l s, RS X.K ρ H s ∧ RL X.K ρ H σ l ∧ PostS X.K W0 ρ H D (whLoop (den cf T.gc c).b (sden cf T.gc b) m l s), ⟨whileFuel, ρ, l, s, rs, rl, hp⟩, ?_⟩
    rintro m σ H ⟨ρ, l, s, rs, rl, hp⟩
    cases m with
    | zero => exact hp.elim
    | succ m =>
      unfold whLoop at hp
      refine ⟨ρ, l, s, rs, rl, PostS.bind hp fun t s1 ρ1 H1 v e1 rs1 r1 h1 => ?_⟩
      cases r1
      cases t with
      | false =>
        rw [if_neg Bool.false_ne_true] at h1
        exact iteF (h1 ρ1 H1 σ .refl rs1 (rl.mono e1))
      | true =>
        rw [if_pos rfl] at h1
        refine iteT ⟨fun σ' H' => ∃ ρ l s, RS X.K ρ H' s ∧ RL X.K ρ H' σ' l ∧ PostS X.K W0 ρ H' D (whLoop (den cf T.gc c).b (sden cf T.gc b) m l s), fun σ' H' q => ⟨m, by omega, q⟩, ?_⟩
        exact ⟨ρ1, l, s1, rs1, rl.mono e1, turn_post (fun ρ2 H2 σ2 l2 s2 _ rs2 rl2 q => ⟨ρ2, l2, s2, rs2, rl2, q⟩) h1⟩
  · cases h
theorem posts_ite {K : PySem.W.Frag} {ρ : List Addr} {H : Hp} {D : Ends} {c : Prop} {inst : Decidable c} {r : Res (Fl × Nv.Loc)} (h : PostS K W0 ρ H D (if c then r else .no)) : c ∧ PostS K W0 ρ H D r := by
  by_cases hc : c
  · rw [if_pos hc] at h; exact ⟨hc, h⟩
  · rw [if_neg hc] at h; exact h.elim
theorem t_for {tg : Tg} {it : Ex} {b : Sm} (hb : SL T cf k N b) : SS T cf k N (.for_ tg it b) := by
  intro X sc s g h
  simp only [ckS] at h
  split at h
  · rename_i t x y p
    obtain ⟨h, h3⟩ := and2 h
    obtain ⟨h, h2⟩ := and2 h
    obtain ⟨h1, htg⟩ := and2 h
    have si := (snd_all it).1 X sc x g.g h2
    have pg := (pg_any (X := X) (N := N) (scw := sc) g.g.nm g.g.nd g.g.calm g.st tg).1 t h1
    refine ps_wk (ps_for g.po g.g.calm (si.i t htg) pg (hb X sc y g h3) (ok_fold si.ok X.env)) fun D σ H ⟨ρ, l, s, rs, rl, hp⟩ => ?_
    refine ⟨ρ, l, s, rs, rl, PostS.bind hp fun its s1 ρ1 H1 J e1 rs1 ri h1 => ?_⟩
    refine ⟨fun i m σ H => ∃ ρ l s, Ext X.K ρ1 H1 ρ H ∧ RS X.K ρ H s ∧ RL X.K ρ H σ l ∧ i + m = its.ds.length ∧ PostS X.K W0 ρ H D (forLoop tg its.src (sden cf T.gc b) (its.ds.drop i) l s), ⟨its.ds.length, ρ1, l, s1, .refl, rs1, rl.mono e1, by omega, h1⟩, ?_⟩
    rintro i m σ H ⟨ρ, l, s, ex, rs, rl, him, hq⟩
    by_cases hlt : i < its.ds.length
    · right
      rw [List.drop_eq_getElem_cons hlt] at hq
      unfold forLoop at hq
      obtain ⟨so, hq⟩ := posts_ite hq
      obtain ⟨t1, _⟩ := ri ρ H s ex rs so i
      obtain ⟨go, yl⟩ := t1 its.ds[i] (List.getElem?_eq_getElem hlt)
      refine ⟨go, fun σ' H' => ∃ ρ l s, Ext X.K ρ1 H1 ρ H' ∧ RS X.K ρ H' s ∧ RL X.K ρ H' σ' l ∧ i + 1 + (m - 1) = its.ds.length ∧ PostS X.K W0 ρ H' D (forLoop tg its.src (sden cf T.gc b) (its.ds.drop (i + 1)) l s), fun σ' H' w => ⟨m - 1, by omega, w⟩, fun v H2 hy => ?_⟩
      obtain ⟨ex2, rs2, rx⟩ := yl v H2 hy
      cases hbd : bindT tg its.ds[i] l with
      | none => rw [hbd] at hq; exact hq.elim
      | some l1 =>
        rw [hbd] at hq
        refine ⟨ρ, l, s, _, rs2, rl.mono ex2, rx, l1, hbd, fun σ2 rl2 _ _ => ?_⟩
        exact ⟨ρ, l1, s, rs2, rl2, turn_post (fun ρ3 H3 σ3 l3 s3 ex3 rs3 rl3 q => ⟨ρ3, l3, s3, (ex.trans ex2).trans ex3, rs3, rl3, by omega, q⟩) (PostS.mono ex2 hq)⟩
    · left
      have hi : i = its.ds.length := by omega
      rw [List.drop_eq_nil_of_le (by omega)] at hq
      unfold forLoop at hq
      obtain ⟨so, hq⟩ := posts_ite hq
      obtain ⟨_, t2⟩ := ri ρ H s ex rs so i
      exact ⟨t2 hi.symm, hq ρ H σ .refl rs rl⟩
  · cases h
theorem no_s {t : Sm} (h : ∀ (sc : Scope) (e : Stmt), (ckS T N t).s sc e = false) : SS T cf k N t := fun X sc e g q => by rw [h] at q; cases q
theorem no_sl {t : Sm} (h : ∀ (sc : Scope) (e : List Stmt), (ckS T N t).l sc e = false) : SL T cf k N t := fun X sc e g q => by rw [h] at q; cases q
/-- ALL STATEMENTS -/
theorem snd_st (t : Sm) : SS T cf k N t ∧ SL T cf k N t := by
  induction t with
  | nil => exact ⟨no_s fun _ _ => rfl, t_nil⟩
  | cons a b ha hb => exact ⟨no_s fun _ _ => rfl, t_cons ha.1 hb.2⟩
  | ex e => exact ⟨t_ex, no_sl fun _ _ => rfl⟩
  | set tg e => exact ⟨t_set, no_sl fun _ _ => rfl⟩
  | setI o i e => exact ⟨t_setI, no_sl fun _ _ => rfl⟩
  | aug i o e => exact ⟨t_aug, no_sl fun _ _ => rfl⟩
  | ret e => exact ⟨t_ret, no_sl fun _ _ => rfl⟩
  | retN => exact ⟨t_retN, no_sl fun _ _ => rfl⟩
  | ifs c a b ha hb => exact ⟨t_ifs ha.2 hb.2, no_sl fun _ _ => rfl⟩
  | for_ tg it b hb => exact ⟨t_for hb.2, no_sl fun _ _ => rfl⟩
  | wh c b hb => exact ⟨t_wh hb.2, no_sl fun _ _ => rfl⟩
  | brk => exact ⟨t_brk, no_sl fun _ _ => rfl⟩
  | cnt => exact ⟨t_cnt, no_sl fun _ _ => rfl⟩
  | pass => exact ⟨t_pass, no_sl fun _ _ => rfl⟩
end
end Nv

set_option Elab.async false
set_option linter.all false
set_option maxRecDepth 100000
set_option autoImplicit false
set_option maxHeartbeats 4000000
/-! NvFn: functions, the law. -/
namespace Nv
open PySem PySem.Spec PyProof.Rows L2
section
variable {K : PySem.W.Frag} {ρ : List Addr} {H : Hp} {b : Nat}
theorem take_get {l : List Addr} {i : Nat} {a : Addr} (h : l[i]? = some a) (hi : i < b) : (l.take b)[i]? = some a := by rw [List.getElem?_take_of_lt hi]; exact h
mutual
theorem RV.narrow : ∀ (d : Nv.D) (v : V), RV K ρ H d v → d.lt b = true → RV K (ρ.take b) H d v
  | .non, _, h, _ => by unfold RV at *; exact h
  | .bl _, _, h, _ => by unfold RV at *; exact h
  | .int _, _, h, _ => by unfold RV at *; exact h
  | .str _, _, h, _ => by unfold RV at *; exact h
  | .tup ds, _, h, q => by
    unfold RV at *
    obtain ⟨a, vs, e1, e2, e3⟩ := h
    exact ⟨a, vs, e1, e2, RVs.narrow ds vs e3 (by unfold D.lt at q; exact q)⟩
  | .lf ds, _, h, q => by
    unfold RV at *
    obtain ⟨a, vs, e1, e2, e3⟩ := h
    exact ⟨a, vs, e1, e2, RVs.narrow ds vs e3 (by unfold D.lt at q; exact q)⟩
  | .obj i, _, h, q => by
    unfold RV at *
    obtain ⟨a, e1, e2⟩ := h
    exact ⟨a, e1, take_get e2 (by unfold D.lt at q; exact of_decide_eq_true q)⟩
theorem RVs.narrow : ∀ (ds : List Nv.D) (vs : List V), RVs K ρ H ds vs → D.ltAll b ds = true → RVs K (ρ.take b) H ds vs
  | [], _, h, _ => by unfold RVs at *; exact h
  | d :: ds, _, h, q => by
    unfold RVs at *
    obtain ⟨v, r, e1, e2, e3⟩ := h
    unfold D.ltAll at q
    obtain ⟨q1, q2⟩ := and2 q
    exact ⟨v, r, e1, RV.narrow d v e2 q1, RVs.narrow ds r e3 q2⟩
end
theorem ROb.narrow {a : Addr} {o : Ob} (h : ROb K ρ H a o) (q : o.lt b = true) : ROb K (ρ.take b) H a o := by
  cases o with
  | lst xs => obtain ⟨vs, h1, h2⟩ := h; exact ⟨vs, h1, RVs.narrow xs vs h2 q⟩
  | dct _ => exact h.elim
theorem RS.narrow {s : Sto} (h : RS K ρ H s) (q : (s.take b).all (Ob.lt b) = true) : RS K (ρ.take b) H (s.take b) := by
  refine ⟨by rw [List.length_take, List.length_take, h.len], h.nd.sublist (List.take_sublist _ _), fun i o a h1 h2 => ?_⟩
  have hm : o ∈ s.take b := List.mem_of_getElem? h1
  have hi : i < b := by
    have := (List.getElem?_eq_some_iff.mp h1).1
    rw [List.length_take] at this
    omega
  rw [List.getElem?_take_of_lt hi] at h1 h2
  exact (h.ob i o a h1 h2).narrow (List.all_eq_true.mp q o hm)
theorem Ext.narrow {ρ0 : List Addr} {H0 : Hp} (e : Ext K ρ0 H0 ρ H) (hb : ρ0.length = b) : Ext K ρ0 H0 (ρ.take b) H where
  pre := fun i a h => take_get (e.pre i a h) (by rw [← hb]; exact (List.getElem?_eq_some_iff.mp h).1)
  tup := e.tup
  fzl := e.fzl
  oth := e.oth
  new := fun a h => e.new a (List.mem_of_mem_take h)
  bk := e.bk
/-- what a call leaves -/
theorem fin_ok {W : Wx} {ρ0 : List Addr} {H0 : Hp} {s : Sto} {d : Nv.D} {v : V} {Q : VK} (hb : ρ0.length = b) (e : Ext K ρ0 H0 ρ H) (rs : RS K ρ H s) (r : RV K ρ H d v) (h : Post K W (rRV K) ρ0 H0 Q (fin b d s)) : Q v H := by
  unfold fin at h
  split at h
  · rename_i c1
    split at h
    · rename_i c2
      exact h (ρ.take b) H v (e.narrow hb) (rs.narrow c1) (RV.narrow d v r c2)
    · rename_i c2
      split at h
      · rename_i i
        split at h
        · rename_i o ho
          split at h
          · rename_i c3
            have hge : b ≤ i := by
              have : ¬ i < b := fun z => c2 (by unfold D.lt; exact decide_eq_true z)
              omega
            unfold RV at r
            obtain ⟨a, rfl, ha⟩ := r
            have hlen : b ≤ ρ.length := by
              have := (List.getElem?_eq_some_iff.mp ha).1
              omega
            have htl : (ρ.take b).length = b := by rw [List.length_take]; omega
            have hna : a ∉ ρ.take b := fun z => by
              obtain ⟨j, hj⟩ := List.mem_iff_getElem?.mp z
              have hjb : j < b := by
                have := (List.getElem?_eq_some_iff.mp hj).1
                omega
              rw [List.getElem?_take_of_lt hjb] at hj
              have := nodup_ix_ rs.nd hj ha
              omega
            have rn := rs.narrow c1
            have rob := (rs.ob i o a ho ha).narrow c3
            have pre : ∀ (j : Nat) (c : Addr), (ρ.take b)[j]? = some c → (ρ.take b ++ [a])[j]? = some c := fun j c q => by rw [List.getElem?_append_left (List.getElem?_eq_some_iff.mp q).1]; exact q
            have wid : ∀ {c : Addr} {o : Ob}, ROb K (ρ.take b) H c o → ROb K (ρ.take b ++ [a]) H c o := fun {c o} q => by
              cases o with
              | lst xs => obtain ⟨vs, h1, h2⟩ := q; exact ⟨vs, h1, h2.widen pre⟩
              | dct _ => exact q.elim
            refine h (ρ.take b ++ [a]) H (.ref a) ?_ ?_ ?_
            · refine ⟨fun j c q => pre j c ((e.narrow hb).pre j c q), e.tup, e.fzl, e.oth, fun c q => ?_, e.bk⟩
              rcases List.mem_append.mp q with q | q
              · exact e.new c (List.mem_of_mem_take q)
              · rw [List.mem_singleton.mp q]; exact e.new a (List.mem_of_getElem? ha)
            · refine ⟨by rw [List.length_append, List.length_append, rn.len]; rfl, ?_, fun j o' c h1 h2 => ?_⟩
              · rw [List.nodup_append]
                refine ⟨rn.nd, by simp, fun x hx y hy => ?_⟩
                rw [List.mem_singleton.mp hy]
                rintro rfl
                exact hna hx
              · by_cases hj : j < (s.take b).length
                · rw [List.getElem?_append_left hj] at h1
                  rw [List.getElem?_append_left (by rw [rn.len]; exact hj)] at h2
                  exact wid (rn.ob j o' c h1 h2)
                · have hj2 : j = (s.take b).length := by
                    have := (List.getElem?_eq_some_iff.mp h1).1
                    rw [List.length_append] at this
                    simp at this
                    simp at hj
                    simp
                    omega
                  subst hj2
                  rw [List.getElem?_append_right (Nat.le_refl _), Nat.sub_self] at h1
                  rw [List.getElem?_append_right (by rw [rn.len]; exact Nat.le_refl _), rn.len, Nat.sub_self] at h2
                  cases h1
                  cases h2
                  exact wid rob
            · show RV _ _ _ _ _
              unfold RV
              refine ⟨a, rfl, ?_⟩
              rw [List.getElem?_append_right (by rw [htl]; exact Nat.le_refl _), htl, Nat.sub_self]
              rfl
          · exact h ρ H v e rs r
        · exact h ρ H v e rs r
      · exact h ρ H v e rs r
  · exact h ρ H v e rs r
end
/-- what stands of a function of the table behind the top -/
structure FnTop (K : PySem.W.Frag) (mg : Str → Option Value) (T : Tab) (F : Fn) : Prop where
  ex : ∃ (f : Addr) (fd : FuncData) (st : Stmt), mg F.name = some (.ref f) ∧ Fun K F.name F.name st f fd ∧ FnScope F.ns F.ps (defScope st) ∧ (∀ us : List Value, us.length = F.ps.length → bindArgs fd ⟨us, []⟩ = pure (F.ps.zip us)) ∧ (ckS T F.ns F.body).l (defScope st) (defBody st) = true
section
variable {P : Program} {w : World} {K : PySem.W.Frag} {mg : Str → Option Value} {base : Heap} {T : Tab}
theorem start_rl {ρ : List Addr} {H : Hp} {ds : List Nv.D} {vs : List V} {N : List Str} (r : RVs K ρ H ds vs) : RL K ρ H (L2.start N vs) (ds.map some ++ List.replicate (N.length - ds.length) none) := by
  have hl := r.length
  unfold L2.start
  refine ⟨by rw [List.length_append, List.length_append, List.length_map, List.length_map, List.length_replicate, List.length_replicate, hl], fun i d q => ?_⟩
  by_cases hi : i < ds.length
  · rw [List.getElem?_append_left (by rw [List.length_map]; exact hi), List.getElem?_map] at q
    obtain ⟨x, h1, h2⟩ := Option.map_eq_some_iff.mp q
    cases h2
    obtain ⟨v, h3, h4⟩ := r.get h1
    exact ⟨v, by rw [List.getElem?_append_left (by rw [List.length_map, hl]; exact hi), List.getElem?_map, h3]; rfl, h4⟩
  · rw [List.getElem?_append_right (by rw [List.length_map]; omega), List.getElem?_replicate] at q
    split at q <;> cases q
theorem stores_fn {N : List Str} {qual : Str} {sc : Scope} {f : Addr} {cd : Value} {A : Around} {outer : List Env} {s : Shared} {H : Hp} {E : XK} : Stores sc (cxOf CX0 P w K mg base N qual sc f cd A outer s H E).nox := by
  intro x hx
  unfold locB at hx
  split at hx
  · rename_i q; exact ⟨.inl q, .inl rfl⟩
  · rename_i q; exact ⟨.inr q, .inl rfl⟩
  · cases hx
/-- a body by the interpreter's run -/
theorem fn_body {n i : Nat} {F : Fn} {st : Stmt} {f : Addr} {cdv : Value} {A : Around} {outer : List Env} {s : Shared} {H : Hp} {vs : List V} {Q : VK} {E : XK}
    (ih : ∀ (i : Nat) (F : Fn), T.fns[i]? = some F → ∃ f fd, mg F.name = some (.ref f) ∧ PySem.W.keepIn K (.ref f) = true ∧ Binds K fd F.ps [] ∧ FnOk P w K mg base CX0 n f fd F.ps (spOf K W0 (callN T n i)))
    (hb : ∀ x : Str, T.blts.contains x = true → mg x = none) (hc : ∀ (j : Nat) (x : Str) (d : Nv.D), T.cons[j]? = some (x, d) → ∃ u v, mg x = some u ∧ RelV v u ∧ ∀ ρ H, RV K ρ H d v)
    (h3 : FnScope F.ns F.ps (defScope st)) (h5 : (ckS T F.ns F.body).l (defScope st) (defBody st) = true) (h : T.fns[i]? = some F) (hr : Room n (A.deeper (envOfC F.name (defScope st) s.heap.objs.size f cdv))) (q : spOf K W0 (callN T (n + 1) i) vs H Q E) :
    ∃ t, PSs (cxOf CX0 P w K mg base F.ns F.name (defScope st) f cdv A outer s H E).nox (defBody st) t ∧ t { nx := fun _ H' => Q .non H', rt := Q } (L2.start F.ns vs) H := by
  obtain ⟨ρ, st', ds, rs, rv, hp⟩ := q
  have e : callN T (n + 1) i ds st' = runFn (callN T n) T.gc F ds st' := by unfold callN; rw [h]
  rw [e] at hp
  unfold runFn at hp
  obtain ⟨hl, hp⟩ := post_ite hp
  have good : GoodS T (callN T n) n F.ns (defScope st) (cxOf CX0 P w K mg base F.ns F.name (defScope st) f cdv A outer s H E).nox :=
    ⟨⟨rfl, h3.nd, rfl, rfl, hr, hb, hc, ih⟩, stores_fn, PassesOwn.never, h3.kind⟩
  refine ⟨_, (snd_st F.body).2 _ _ _ good h5, ρ, _, st', rs, start_rl rv, ?_⟩
  cases hrun : sden (callN T n) T.gc F.body (ds.map some ++ List.replicate (F.ns.length - ds.length) none) st' with
  | no => rw [hrun] at hp; exact hp
  | ex x s1 => rw [hrun] at hp; exact hp
  | ok a s1 =>
    rw [hrun] at hp
    obtain ⟨fl, l⟩ := a
    cases fl with
    | nx => exact fun ρ' H' σ' ex rs' rl' => fin_ok rs.len ex rs' (rv_non.mpr rfl) hp
    | rt d => exact fun ρ' H' v ex rs' rv' => fin_ok rs.len ex rs' rv' hp
    | bk => exact hp.elim
    | ct => exact hp.elim
/-- ALL FUNCTIONS, at every depth of calls -/
theorem fns_ok (hE : ∀ (i : Nat) (F : Fn), T.fns[i]? = some F → FnTop K mg T F) (hb : ∀ x : Str, T.blts.contains x = true → mg x = none)
    (hc : ∀ (j : Nat) (x : Str) (d : Nv.D), T.cons[j]? = some (x, d) → ∃ u v, mg x = some u ∧ RelV v u ∧ ∀ ρ H, RV K ρ H d v) :
    ∀ (n i : Nat) (F : Fn), T.fns[i]? = some F → ∃ f fd, mg F.name = some (.ref f) ∧ PySem.W.keepIn K (.ref f) = true ∧ Binds K fd F.ps [] ∧ FnOk P w K mg base CX0 n f fd F.ps (spOf K W0 (callN T n i))
  | 0, i, F, h => by
    obtain ⟨f, fd, st, h1, h2, h3, h4, h5⟩ := (hE i F h).ex
    have no : ∀ vs H Q E, ¬ spOf K W0 (callN T 0 i) vs H Q E := fun vs H Q E h => by
      obtain ⟨_, _, _, _, _, q⟩ := h
      exact q
    exact ⟨f, fd, h1, h2.kp, .all h4, ⟨fun vs H Q E h => absurd h (no vs H Q E), fun A outer s H args us vs Q E _ _ _ _ h => absurd h (no vs H Q E)⟩⟩
  | n + 1, i, F, h => by
    have ih := fns_ok hE hb hc n
    obtain ⟨f, fd, st, h1, h2, h3, h4, h5⟩ := (hE i F h).ex
    refine ⟨f, fd, h1, h2.kp, .all h4, h2.ok h3 (fun vs H Q E q => ?_) fun cdv A outer s H vs Q E hr q => ?_⟩
    · obtain ⟨ρ, st', ds, rs, rv, hp⟩ := q
      have e : callN T (n + 1) i ds st' = runFn (callN T n) T.gc F ds st' := by unfold callN; rw [h]
      rw [e] at hp
      unfold runFn at hp
      rw [rv.length]
      exact (post_ite hp).1
    · exact fn_body (fun i F h => ih i F h) hb hc h3 h5 h hr q
/-- what law(script) promises -/
def spLaw (K : PySem.W.Frag) : Sp := fun vs H Q _ => ∃ (a : Addr) (ns : List Int), vs = [.ref a] ∧ SqF K H a (ns.map V.int) ∧ ns.length ≤ 63 ∧ ∀ H', Q (.bl true) H'
theorem rvs_ints {ρ : List Addr} {H : Hp} : ∀ ns : List Int, RVs K ρ H (ns.map Nv.D.int) (ns.map V.int)
  | [] => .nil_
  | n :: r => .cons_ (rv_int.mpr rfl) (rvs_ints r)
theorem law_ok {n i : Nat} {f : Addr} {fd : FuncData} {x : Str} (h : FnOk P w K mg base CX0 n f fd [x] (spOf K W0 (callN T n i))) (hlaw : ∀ ns : List Int, ns.length ≤ 63 → ∃ s, callN T n i [.lf (ns.map Nv.D.int)] [] = .ok (.bl true) s) :
    FnOk P w K mg base CX0 n f fd [x] (spLaw K) := h.imp fun vs H Q E ⟨a, ns, e, hS, hl, q⟩ => by
  subst e
  obtain ⟨s, hs⟩ := hlaw ns hl
  refine ⟨[], [], [.lf (ns.map Nv.D.int)], ⟨rfl, List.nodup_nil, fun i o a h1 h2 => by simp at h1⟩, .one ?_, ?_⟩
  · unfold RV
    exact ⟨a, _, rfl, hS, rvs_ints ns⟩
  · rw [hs]
    intro ρ' H' v ex rs rv
    rw [rv_bl.mp rv]
    exact q H'
theorem sqf_only {H : Hp} {a : Addr} {xs : List V} (hO : Only H) (h : SqL K H a xs) : SqF K H a xs := by
  rcases h with (h | ⟨o, h⟩) | h
  · rcases hO a with z | ⟨o, ys, z⟩
    · rw [h] at z; cases z
    · rw [h] at z; cases z
  · exact .inl ⟨o, h⟩
  · exact .inr h
end
/-! ### the end: from the facts of the head -/
theorem fn_top {K : PySem.W.Frag} {h : Heap} {mg : Str → Option Value} {T : Tab} {F : Fn} (X : K.In h) (G : h.Ns mainGlobals mg) {f : Addr} {st : Stmt} {od an : Option Addr} {sl : Array (Option Value)} {oc kV dc pm cd ct : Value}
    (a : PySem.W.nsIn K mainGlobals F.name = some (some (.ref f))) (l : K.lookup f = some ⟨oc, od, .func (PySem.W.fnOf F.name F.name (defArgs st) (defBody st) (defScope st) .none kV dc pm an cd ct), sl⟩) (c : PySem.W.codeIn K cd F.name = true) (k : PySem.W.keepIn K (.ref f) = true)
    (S : FnScope F.ns F.ps (defScope st)) (hb : ∀ (kV doc pm : Value) (an : Option Addr) (cdv ct : Value) (us : List Value), us.length = F.ps.length → bindArgs (PySem.W.fnOf F.name F.name (defArgs st) (defBody st) (defScope st) .none kV doc pm an cdv ct) ⟨us, []⟩ = pure (F.ps.zip us))
    (hc : (ckS T F.ns F.body).l (defScope st) (defBody st) = true) : FnTop K mg T F := by
  have Fu := fun_mk l c k
  exact ⟨⟨f, _, st, PySem.W.mg_of X G a, Fu, S, fun us hl => hb kV dc pm an cd ct us hl, hc⟩⟩
theorem scope_of {N P : List Str} {sc : Scope} (h1 : sc.kind = .function) (h2 : sc.isCoroutine = false) (h3 : sc.isGenerator = false) (h4 : N.Nodup) (h5 : N.take P.length = P) (h6 : ∀ x ∈ P, sc.names.lookup x = some .local ∨ sc.names.lookup x = some .cell) (h7 : ∀ y ∈ sc.names, y.2 ≠ .free) : FnScope N P sc := ⟨h1, h2, h3, h4, h5, h6, h7⟩
/-- a constant of the top: a text, a tuple of such .. -/
theorem con_str {K : PySem.W.Frag} {h : Heap} {mg : Str → Option Value} (X : K.In h) (G : h.Ns mainGlobals mg) {x z : Str} {t : Tok} (a : PySem.W.nsIn K mainGlobals x = some (some (.str z t))) : ∃ u v, mg x = some u ∧ RelV v u ∧ ∀ ρ H, RV K ρ H (.str z) v :=
  ⟨_, .str z, PySem.W.mg_of X G a, ⟨t, rfl⟩, fun ρ H => rv_str.mpr rfl⟩
theorem con_int {K : PySem.W.Frag} {h : Heap} {mg : Str → Option Value} (X : K.In h) (G : h.Ns mainGlobals mg) {x : Str} {z : Int} {t : Tok} (a : PySem.W.nsIn K mainGlobals x = some (some (.int z t))) : ∃ u v, mg x = some u ∧ RelV v u ∧ ∀ ρ H, RV K ρ H (.int z) v :=
  ⟨_, .int z, PySem.W.mg_of X G a, ⟨t, rfl⟩, fun ρ H => rv_int.mpr rfl⟩
/-- the facts of a law's text: its functions, the built-ins that no name hides, its constants -/
structure Facts (K : PySem.W.Frag) (mg : Str → Option Value) (T : Tab) : Prop where
  fns : ∀ F, F ∈ T.fns → FnTop K mg T F
  blt : ∀ x, x ∈ T.blts → mg x = none
  con : ∀ p, p ∈ T.cons → ∃ u v, mg p.1 = some u ∧ RelV v u ∧ ∀ ρ H, RV K ρ H p.2 v
theorem Facts.levels {P : Program} {w : World} {K : PySem.W.Frag} {mg : Str → Option Value} {T : Tab} {base : Heap} (E : Facts K mg T) (n i : Nat) (F : Fn) (h : T.fns[i]? = some F) :
    ∃ f fd, mg F.name = some (.ref f) ∧ PySem.W.keepIn K (.ref f) = true ∧ Binds K fd F.ps [] ∧ FnOk P w K mg base CX0 n f fd F.ps (spOf K W0 (callN T n i)) :=
  fns_ok (fun i F h => E.fns F (List.mem_of_getElem? h)) (fun x h => E.blt x (by simpa using h)) (fun j x d h => E.con (x, d) (List.mem_of_getElem? h)) n i F h
theorem law_end {P : Program} {w : World} {K : PySem.W.Frag} {mg : Str → Option Value} {T : Tab} {n i : Nat} {fa : Addr} {x nm : Str} {F : Fn} (E : Facts K mg T) (hi : T.fns[i]? = some F) (hps : F.ps = [x]) (hnm : F.name = nm) (hfa : mg nm = some (.ref fa))
    (hlaw : ∀ ns : List Int, ns.length ≤ 63 → ∃ s, callN T (n + 1) i [.lf (ns.map Nv.D.int)] [] = .ok (.bl true) s) :
    ∃ fd : FuncData, (∀ (s : Shared) (v : Value), BindsTo s fd ⟨[v], []⟩ [(x, v)]) ∧ ∀ base : Heap, K.In base → base.Ns mainGlobals mg → FnOk P w K mg base CX0 (n + 1) fa fd [x] (spLaw K) := by
  obtain ⟨f, fd, st, h1, h2, h3, h4, h5⟩ := (E.fns F (List.mem_of_getElem? hi)).ex
  rw [hnm, hfa] at h1
  cases h1
  have hbd : ∀ v : Value, bindArgs fd ⟨[v], []⟩ = pure [(x, v)] := fun v => by
    have := h4 [v] (by rw [hps]; rfl)
    rw [hps] at this
    exact this
  refine ⟨fd, fun s v => .of_eq (hbd v), fun base _ _ => law_ok (i := i) ?_ hlaw⟩
  rw [← hps]
  -- the same def at this depth
  refine h2.ok h3 (fun vs H Q E q => ?_) fun cdv A outer s H vs Q E' hr q => ?_
  · obtain ⟨ρ, st', ds, rs, rv, hp⟩ := q
    have e : callN T (n + 1) i ds st' = runFn (callN T n) T.gc F ds st' := by unfold callN; rw [hi]
    rw [e] at hp
    unfold runFn at hp
    rw [rv.length]
    exact (post_ite hp).1
  · exact fn_body (fun i F h => E.levels n i F h) (fun x h => E.blt x (by simpa using h)) (fun j x d h => E.con (x, d) (List.mem_of_getElem? h)) h3 h5 hi hr q
end Nv

set_option Elab.async false
set_option linter.all false
set_option maxRecDepth 100000
set_option autoImplicit false
/-! NvSim: the interpreter's steps as rules for simp: each thing by what comes behind it, so that simp goes on from the root. -/
namespace Nv
open PySem PySem.Spec PyProof.Rows L2
noncomputable section
variable {α β : Type}
def ev (cf : Nat → List D → Sto → Res D) (g : Nat → Option D) (e : Ex) (l : Loc) (s : Sto) (k : RD → Sto → Res β) : Res β := ((den cf g e).r l s).bind k
def evv (cf : Nat → List D → Sto → Res D) (g : Nat → Option D) (e : Ex) (l : Loc) (s : Sto) (k : D → Sto → Res β) : Res β := ((den cf g e).v l s).bind k
def evb (cf : Nat → List D → Sto → Res D) (g : Nat → Option D) (e : Ex) (l : Loc) (s : Sto) (k : Bool → Sto → Res β) : Res β := ((den cf g e).b l s).bind k
def evi (cf : Nat → List D → Sto → Res D) (g : Nat → Option D) (e : Ex) (l : Loc) (s : Sto) (k : Its → Sto → Res β) : Res β := ((den cf g e).i l s).bind k
def evs (cf : Nat → List D → Sto → Res D) (g : Nat → Option D) (e : Ex) (l : Loc) (s : Sto) (k : List D → Sto → Res β) : Res β := ((den cf g e).vs l s).bind k
def evo (cf : Nat → List D → Sto → Res D) (g : Nat → Option D) (e : Ex) (l : Loc) (s : Sto) (k : Option Int → Sto → Res β) : Res β := (optI e.isNil (den cf g e).r l s).bind k
def sk (cf : Nat → List D → Sto → Res D) (g : Nat → Option D) (b : Sm) (l : Loc) (s : Sto) (k : Fl → Loc → Sto → Res β) : Res β := (sden cf g b l s).bind fun fl s1 => k fl.1 fl.2 s1
def opK (o : Option α) (s : Sto) (k : α → Sto → Res β) : Res β := (ofO o s).bind k
def callK (cf : Nat → List D → Sto → Res D) (f : Nat) (ds : List D) (s : Sto) (k : D → Sto → Res β) : Res β := (cf f ds s).bind k
def resK (r : Res α) (k : α → Sto → Res β) : Res β := r.bind k
def okK (c : Prop) [Decidable c] (x : α) (s : Sto) (k : α → Sto → Res β) : Res β := (if c then (.ok x s : Res α) else .no).bind k
def alK (x : RD) (s : Sto) (k : D → Sto → Res β) : Res β := (match x with | .d x => .ok x s | .l xs => .ok (.obj s.length) (s ++ [.lst xs]) : Res D).bind k
def negK (x : RD) (s : Sto) (k : RD → Sto → Res β) : Res β := (match x with | .d (.int i) => .ok (.d (.int (-i))) s | _ => .no : Res RD).bind k
def ntK (x : RD) (s : Sto) (k : RD → Sto → Res β) : Res β := (match x with | .d (.bl b) => .ok (.d (.bl (!b))) s | _ => .no : Res RD).bind k
def andK (x : RD) (A : Res RD) (s : Sto) (k : RD → Sto → Res β) : Res β := (match x with | .d (.bl true) => A | .d (.bl false) => .ok (.d (.bl false)) s | _ => .no : Res RD).bind k
def orK (x : RD) (A : Res RD) (s : Sto) (k : RD → Sto → Res β) : Res β := (match x with | .d (.bl false) => A | .d (.bl true) => .ok (.d (.bl true)) s | _ => .no : Res RD).bind k
def iteK (t : Bool) (A B : Res α) (k : α → Sto → Res β) : Res β := (if t = true then A else B).bind k
def inK (y : RD) (s : Sto) (k : Option Int → Sto → Res β) : Res β := (match y with | .d (.int i) => .ok (some i) s | _ => .no : Res (Option Int)).bind k
def m1K (cf : Nat → List D → Sto → Res D) (g : Nat → Option D) (m : M1) (a : Ex) (l : Loc) (x : D) (s1 : Sto) (k : RD → Sto → Res β) : Res β :=
  (if isLstB s1 x = true then (if m = .append then ((den cf g a).v l s1).bind fun y s2 => m1R m x (.d y) s2 else ((den cf g a).r l s1).bind fun y s2 => m1R m x y s2) else .no).bind k
noncomputable def cpK (tg : Tg) (src : Option (Nat × List D)) (c : M Bool) (e : M D) (l : Loc) (ds acc : List D) (s : Sto) (k : List D → Sto → Res β) : Res β := (cpLoop tg src c e l ds acc s).bind k
noncomputable def forK (tg : Tg) (src : Option (Nat × List D)) (b : SM) (ds : List D) (l : Loc) (s : Sto) (k : Fl → Loc → Sto → Res β) : Res β := (forLoop tg src b ds l s).bind fun fl s1 => k fl.1 fl.2 s1
def whK (c : M Bool) (b : SM) (n : Nat) (l : Loc) (s : Sto) (k : Fl → Loc → Sto → Res β) : Res β := (whLoop c b n l s).bind fun fl s1 => k fl.1 fl.2 s1
def btK (o : Option Loc) (f : Loc → Res β) : Res β := match o with
  | some l => f l
  | none => .no
def flK (f : Fl) (p q : Res β) : Res β := match f with
  | .nx => p
  | _ => q
end
section
variable {α β : Type} {cf : Nat → List D → Sto → Res D} {g : Nat → Option D} {l : Loc} {s : Sto} {a b c o es elt it lo hi : Ex} {tg : Tg}
section
variable {k : RD → Sto → Res β}
@[simp ↓] theorem ev_int {z : Int} : ev cf g (.int z) l s k = k (.d (.int z)) s := rfl
@[simp ↓] theorem ev_str {z : Str} : ev cf g (.str z) l s k = k (.d (.str z)) s := rfl
@[simp ↓] theorem ev_bl {z : Bool} : ev cf g (.bl z) l s k = k (.d (.bl z)) s := rfl
@[simp ↓] theorem ev_non : ev cf g .non l s k = k (.d .non) s := rfl
@[simp ↓] theorem ev_gc {j : Nat} : ev cf g (.gc j) l s k = opK ((g j).map .d) s k := rfl
@[simp ↓] theorem ev_tup : ev cf g (.tup es) l s k = evs cf g es l s fun xs s1 => okK (xs.length ≤ sizeLine) (.d (.tup xs)) s1 k := bind_assoc _ _ _
@[simp ↓] theorem ev_lst : ev cf g (.lst es) l s k = evs cf g es l s fun xs s1 => okK (xs.length ≤ sizeLine) (.l xs) s1 k := bind_assoc _ _ _
@[simp ↓] theorem ev_bin {p : Bop} : ev cf g (.bin p a b) l s k = ev cf g a l s fun x s1 => ev cf g b l s1 fun y s2 => opK (binR p s2 x y) s2 k := by show Res.bind (Res.bind _ _) _ = _; simp only [bind_assoc]; rfl
@[simp ↓] theorem ev_neg : ev cf g (.neg a) l s k = ev cf g a l s fun x s1 => negK x s1 k := bind_assoc _ _ _
@[simp ↓] theorem ev_nt : ev cf g (.nt a) l s k = ev cf g a l s fun x s1 => ntK x s1 k := bind_assoc _ _ _
@[simp ↓] theorem ev_cmp {p : Cop} : ev cf g (.cmp p a b) l s k = ev cf g a l s fun x s1 => ev cf g b l s1 fun y s2 => opK ((cmpR p s2 x y).map fun t => .d (.bl t)) s2 k := by show Res.bind (Res.bind _ _) _ = _; simp only [bind_assoc]; rfl
@[simp ↓] theorem ev_and : ev cf g (.and a b) l s k = ev cf g a l s fun x s1 => andK x ((den cf g b).r l s1) s1 k := bind_assoc _ _ _
@[simp ↓] theorem ev_or : ev cf g (.or a b) l s k = ev cf g a l s fun x s1 => orK x ((den cf g b).r l s1) s1 k := bind_assoc _ _ _
@[simp ↓] theorem ev_ife : ev cf g (.ife c a b) l s k = evb cf g c l s fun t s1 => iteK t ((den cf g a).r l s1) ((den cf g b).r l s1) k := bind_assoc _ _ _
@[simp ↓] theorem ev_call {f : Nat} : ev cf g (.call f es) l s k = evs cf g es l s fun ds s1 => callK cf f ds s1 fun d s2 => k (.d d) s2 := by show Res.bind (Res.bind _ _) _ = _; simp only [bind_assoc]; rfl
@[simp ↓] theorem ev_b1 {f : B1} : ev cf g (.b1 f a) l s k = ev cf g a l s fun x s1 => opK (b1R f s1 x) s1 k := bind_assoc _ _ _
@[simp ↓] theorem ev_b2 {f : B2} : ev cf g (.b2 f a b) l s k = ev cf g a l s fun x s1 => ev cf g b l s1 fun y s2 => opK (b2R f s2 x y) s2 k := by show Res.bind (Res.bind _ _) _ = _; simp only [bind_assoc]; rfl
@[simp ↓] theorem ev_isin {t : Ty} : ev cf g (.isin a t) l s k = ev cf g a l s fun x s1 => opK ((isinR s1 t x).map fun b => .d (.bl b)) s1 k := bind_assoc _ _ _
@[simp ↓] theorem ev_fs {f : FS} : ev cf g (.fs f a) l s k = ev cf g a l s fun x s1 => opK (fsR f s1 x) s1 k := bind_assoc _ _ _
@[simp ↓] theorem ev_m0 {m : M0} : ev cf g (.m0 m o) l s k = evv cf g o l s fun x s1 => resK (m0R m x s1) k := bind_assoc _ _ _
@[simp ↓] theorem ev_m1 {m : M1} : ev cf g (.m1 m o a) l s k = evv cf g o l s fun x s1 => m1K cf g m a l x s1 k := bind_assoc _ _ _
@[simp ↓] theorem ev_ix : ev cf g (.ix a b) l s k = ev cf g a l s fun x s1 => ev cf g b l s1 fun y s2 => opK (ixR s2 x y) s2 k := by show Res.bind (Res.bind _ _) _ = _; simp only [bind_assoc]; rfl
@[simp ↓] theorem ev_sl : ev cf g (.sl a lo hi) l s k = ev cf g a l s fun x s1 => evo cf g lo l s1 fun i s2 => evo cf g hi l s2 fun j s3 => opK (slR s3 x i j) s3 k := by show Res.bind (Res.bind _ _) _ = _; simp only [bind_assoc]; rfl
@[simp ↓] theorem ev_cp {own : List Nat} : ev cf g (.cp elt tg it c own) l s k = evi cf g it l s fun its s1 => cpK tg its.src (den cf g c).b (den cf g elt).v (wipeL l own) its.ds [] s1 fun ys s2 => k (.l ys) s2 := by show Res.bind (Res.bind _ _) _ = _; simp only [bind_assoc]; rfl
@[simp ↓] theorem m1_app {x : D} (h : isLstB s x = true) : m1K cf g .append a l x s k = evv cf g a l s fun y s2 => resK (m1R .append x (.d y) s2) k := by unfold m1K; rw [if_pos h, if_pos rfl, bind_assoc]; rfl
@[simp ↓] theorem m1_ext {x : D} (h : isLstB s x = true) : m1K cf g .extend a l x s k = ev cf g a l s fun y s2 => resK (m1R .extend x y s2) k := by unfold m1K; rw [if_pos h, if_neg (by decide), bind_assoc]; rfl
@[simp ↓] theorem neg_int {i : Int} : negK (.d (.int i)) s k = k (.d (.int (-i))) s := rfl
@[simp ↓] theorem nt_bl {t : Bool} : ntK (.d (.bl t)) s k = k (.d (.bl (!t))) s := rfl
@[simp ↓] theorem and_bl {t : Bool} {A : Res RD} : andK (.d (.bl t)) A s k = if t = true then A.bind k else k (.d (.bl false)) s := by cases t <;> rfl
@[simp ↓] theorem or_bl {t : Bool} {A : Res RD} : orK (.d (.bl t)) A s k = if t = true then k (.d (.bl true)) s else A.bind k := by cases t <;> rfl
@[simp ↓] theorem fold_ev {e : Ex} : ((den cf g e).r l s).bind k = ev cf g e l s k := rfl
@[simp ↓] theorem ev_var0 {r : Loc} {d : D} : ev cf g (.var 0) (some d :: r) s k = k (.d d) s := rfl
@[simp ↓] theorem ev_var1 {x0 : Option D} {r : Loc} {d : D} : ev cf g (.var 1) (x0 :: some d :: r) s k = k (.d d) s := rfl
@[simp ↓] theorem ev_var2 {x0 x1 : Option D} {r : Loc} {d : D} : ev cf g (.var 2) (x0 :: x1 :: some d :: r) s k = k (.d d) s := rfl
@[simp ↓] theorem ev_var3 {x0 x1 x2 : Option D} {r : Loc} {d : D} : ev cf g (.var 3) (x0 :: x1 :: x2 :: some d :: r) s k = k (.d d) s := rfl
@[simp ↓] theorem ev_var4 {x0 x1 x2 x3 : Option D} {r : Loc} {d : D} : ev cf g (.var 4) (x0 :: x1 :: x2 :: x3 :: some d :: r) s k = k (.d d) s := rfl
@[simp ↓] theorem ev_var5 {x0 x1 x2 x3 x4 : Option D} {r : Loc} {d : D} : ev cf g (.var 5) (x0 :: x1 :: x2 :: x3 :: x4 :: some d :: r) s k = k (.d d) s := rfl
@[simp ↓] theorem ev_var6 {x0 x1 x2 x3 x4 x5 : Option D} {r : Loc} {d : D} : ev cf g (.var 6) (x0 :: x1 :: x2 :: x3 :: x4 :: x5 :: some d :: r) s k = k (.d d) s := rfl
@[simp ↓] theorem ev_var7 {x0 x1 x2 x3 x4 x5 x6 : Option D} {r : Loc} {d : D} : ev cf g (.var 7) (x0 :: x1 :: x2 :: x3 :: x4 :: x5 :: x6 :: some d :: r) s k = k (.d d) s := rfl
@[simp ↓] theorem ev_var8 {x0 x1 x2 x3 x4 x5 x6 x7 : Option D} {r : Loc} {d : D} : ev cf g (.var 8) (x0 :: x1 :: x2 :: x3 :: x4 :: x5 :: x6 :: x7 :: some d :: r) s k = k (.d d) s := rfl
@[simp ↓] theorem ev_var9 {x0 x1 x2 x3 x4 x5 x6 x7 x8 : Option D} {r : Loc} {d : D} : ev cf g (.var 9) (x0 :: x1 :: x2 :: x3 :: x4 :: x5 :: x6 :: x7 :: x8 :: some d :: r) s k = k (.d d) s := rfl
@[simp ↓] theorem ev_var10 {x0 x1 x2 x3 x4 x5 x6 x7 x8 x9 : Option D} {r : Loc} {d : D} : ev cf g (.var 10) (x0 :: x1 :: x2 :: x3 :: x4 :: x5 :: x6 :: x7 :: x8 :: x9 :: some d :: r) s k = k (.d d) s := rfl
@[simp ↓] theorem ev_var11 {x0 x1 x2 x3 x4 x5 x6 x7 x8 x9 x10 : Option D} {r : Loc} {d : D} : ev cf g (.var 11) (x0 :: x1 :: x2 :: x3 :: x4 :: x5 :: x6 :: x7 :: x8 :: x9 :: x10 :: some d :: r) s k = k (.d d) s := rfl
@[simp ↓] theorem ev_var12 {x0 x1 x2 x3 x4 x5 x6 x7 x8 x9 x10 x11 : Option D} {r : Loc} {d : D} : ev cf g (.var 12) (x0 :: x1 :: x2 :: x3 :: x4 :: x5 :: x6 :: x7 :: x8 :: x9 :: x10 :: x11 :: some d :: r) s k = k (.d d) s := rfl
@[simp ↓] theorem ev_var13 {x0 x1 x2 x3 x4 x5 x6 x7 x8 x9 x10 x11 x12 : Option D} {r : Loc} {d : D} : ev cf g (.var 13) (x0 :: x1 :: x2 :: x3 :: x4 :: x5 :: x6 :: x7 :: x8 :: x9 :: x10 :: x11 :: x12 :: some d :: r) s k = k (.d d) s := rfl
@[simp ↓] theorem ev_var14 {x0 x1 x2 x3 x4 x5 x6 x7 x8 x9 x10 x11 x12 x13 : Option D} {r : Loc} {d : D} : ev cf g (.var 14) (x0 :: x1 :: x2 :: x3 :: x4 :: x5 :: x6 :: x7 :: x8 :: x9 :: x10 :: x11 :: x12 :: x13 :: some d :: r) s k = k (.d d) s := rfl
@[simp ↓] theorem ev_var15 {x0 x1 x2 x3 x4 x5 x6 x7 x8 x9 x10 x11 x12 x13 x14 : Option D} {r : Loc} {d : D} : ev cf g (.var 15) (x0 :: x1 :: x2 :: x3 :: x4 :: x5 :: x6 :: x7 :: x8 :: x9 :: x10 :: x11 :: x12 :: x13 :: x14 :: some d :: r) s k = k (.d d) s := rfl
end
@[simp ↓] theorem ite_k {t : Bool} {A B : Res α} {k : α → Sto → Res β} : iteK t A B k = if t = true then A.bind k else B.bind k := by cases t <;> rfl
@[simp ↓] theorem ok_k {c : Prop} [Decidable c] {x : α} {k : α → Sto → Res β} (h : c) : okK c x s k = k x s := by unfold okK; rw [if_pos h]; rfl
@[simp ↓] theorem op_k {x : α} {k : α → Sto → Res β} : opK (some x) s k = k x s := rfl
@[simp ↓] theorem res_k {x : α} {k : α → Sto → Res β} : resK (.ok x s) k = k x s := rfl
@[simp ↓] theorem fold_evb {e : Ex} {k : Bool → Sto → Res β} : ((den cf g e).b l s).bind k = evb cf g e l s k := rfl
@[simp ↓] theorem fold_evv {e : Ex} {k : D → Sto → Res β} : ((den cf g e).v l s).bind k = evv cf g e l s k := rfl
section
variable {k : D → Sto → Res β}
@[simp ↓] theorem evv_eq {e : Ex} : evv cf g e l s k = ev cf g e l s fun x s1 => alK x s1 k := bind_assoc _ _ _
@[simp ↓] theorem al_d {x : D} : alK (.d x) s k = k x s := rfl
@[simp ↓] theorem al_l {xs : List D} : alK (.l xs) s k = k (.obj s.length) (s ++ [.lst xs]) := rfl
end
section
variable {k : Bool → Sto → Res β}
@[simp ↓] theorem evb_cmp {p : Cop} : evb cf g (.cmp p a b) l s k = ev cf g a l s fun x s1 => ev cf g b l s1 fun y s2 => opK (cmpR p s2 x y) s2 k := by show Res.bind (Res.bind _ _) _ = _; simp only [bind_assoc]; rfl
@[simp ↓] theorem evb_nt : evb cf g (.nt a) l s k = evb cf g a l s fun t s1 => k (!t) s1 := bind_assoc _ _ _
@[simp ↓] theorem evb_and : evb cf g (.and a b) l s k = evb cf g a l s fun t s1 => if t = true then evb cf g b l s1 k else k false s1 := by show Res.bind (Res.bind _ _) _ = _; rw [bind_assoc]; unfold evb; congr 1; funext t s1; cases t <;> rfl
@[simp ↓] theorem evb_or : evb cf g (.or a b) l s k = evb cf g a l s fun t s1 => if t = true then k true s1 else evb cf g b l s1 k := by show Res.bind (Res.bind _ _) _ = _; rw [bind_assoc]; unfold evb; congr 1; funext t s1; cases t <;> rfl
@[simp ↓] theorem evb_nil : evb cf g .nil l s k = k true s := rfl
@[simp ↓] theorem evb_var {i : Nat} : evb cf g (.var i) l s k = ev cf g (.var i) l s fun x s1 => opK (truthR s1 x) s1 k := bind_assoc _ _ _
@[simp ↓] theorem evb_bl {z : Bool} : evb cf g (.bl z) l s k = k z s := rfl
@[simp ↓] theorem evb_call {f : Nat} : evb cf g (.call f es) l s k = ev cf g (.call f es) l s fun x s1 => opK (truthR s1 x) s1 k := bind_assoc _ _ _
@[simp ↓] theorem evb_b1 {f : B1} : evb cf g (.b1 f a) l s k = ev cf g (.b1 f a) l s fun x s1 => opK (truthR s1 x) s1 k := bind_assoc _ _ _
@[simp ↓] theorem evb_isin {t : Ty} : evb cf g (.isin a t) l s k = ev cf g (.isin a t) l s fun x s1 => opK (truthR s1 x) s1 k := bind_assoc _ _ _
@[simp ↓] theorem evb_ix : evb cf g (.ix a b) l s k = ev cf g (.ix a b) l s fun x s1 => opK (truthR s1 x) s1 k := bind_assoc _ _ _
end
section
variable {k : Its → Sto → Res β}
@[simp ↓] theorem evi_i1 {f : I1} : evi cf g (.i1 f a) l s k = ev cf g a l s fun x s1 => opK (i1R f s1 x) s1 k := bind_assoc _ _ _
@[simp ↓] theorem evi_i2 {f : I2} : evi cf g (.i2 f a b) l s k = ev cf g a l s fun x s1 => ev cf g b l s1 fun y s2 => opK (i2R f s2 x y) s2 k := by show Res.bind (Res.bind _ _) _ = _; simp only [bind_assoc]; rfl
@[simp ↓] theorem evi_var {i : Nat} : evi cf g (.var i) l s k = ev cf g (.var i) l s fun x s1 => opK (itsR s1 x) s1 k := bind_assoc _ _ _
@[simp ↓] theorem evi_call {f : Nat} : evi cf g (.call f es) l s k = ev cf g (.call f es) l s fun x s1 => opK (itsR s1 x) s1 k := bind_assoc _ _ _
@[simp ↓] theorem evi_ix : evi cf g (.ix a b) l s k = ev cf g (.ix a b) l s fun x s1 => opK (itsR s1 x) s1 k := bind_assoc _ _ _
@[simp ↓] theorem evi_sl : evi cf g (.sl a lo hi) l s k = ev cf g (.sl a lo hi) l s fun x s1 => opK (itsR s1 x) s1 k := bind_assoc _ _ _
@[simp ↓] theorem evi_fs {f : FS} : evi cf g (.fs f a) l s k = ev cf g (.fs f a) l s fun x s1 => opK (itsR s1 x) s1 k := bind_assoc _ _ _
@[simp ↓] theorem evi_lst : evi cf g (.lst es) l s k = ev cf g (.lst es) l s fun x s1 => opK (itsR s1 x) s1 k := bind_assoc _ _ _
@[simp ↓] theorem evi_tup : evi cf g (.tup es) l s k = ev cf g (.tup es) l s fun x s1 => opK (itsR s1 x) s1 k := bind_assoc _ _ _
@[simp ↓] theorem evi_cp {own : List Nat} : evi cf g (.cp elt tg it c own) l s k = ev cf g (.cp elt tg it c own) l s fun x s1 => opK (itsR s1 x) s1 k := bind_assoc _ _ _
@[simp ↓] theorem evi_b1 {f : B1} : evi cf g (.b1 f a) l s k = ev cf g (.b1 f a) l s fun x s1 => opK (itsR s1 x) s1 k := bind_assoc _ _ _
end
@[simp ↓] theorem evs_nil {k : List D → Sto → Res β} : evs cf g .nil l s k = k [] s := rfl
@[simp ↓] theorem evs_cons {k : List D → Sto → Res β} : evs cf g (.cons a b) l s k = evv cf g a l s fun x s1 => evs cf g b l s1 fun xs s2 => k (x :: xs) s2 := by show Res.bind (Res.bind _ _) _ = _; simp only [bind_assoc]; rfl
@[simp ↓] theorem evo_nil {k : Option Int → Sto → Res β} : evo cf g .nil l s k = k none s := rfl
theorem evo_some {k : Option Int → Sto → Res β} (h : a.isNil = false) : evo cf g a l s k = ev cf g a l s fun y s1 => inK y s1 k := by unfold evo; rw [h]; exact bind_assoc _ _ _
@[simp ↓] theorem evo_int {z : Int} {k : Option Int → Sto → Res β} : evo cf g (.int z) l s k = k (some z) s := rfl
@[simp ↓] theorem evo_var {i : Nat} {k : Option Int → Sto → Res β} : evo cf g (.var i) l s k = ev cf g (.var i) l s fun y s1 => inK y s1 k := evo_some rfl
@[simp ↓] theorem evo_bin {p : Bop} {k : Option Int → Sto → Res β} : evo cf g (.bin p a b) l s k = ev cf g (.bin p a b) l s fun y s1 => inK y s1 k := evo_some rfl
@[simp ↓] theorem in_int {i : Int} {k : Option Int → Sto → Res β} : inK (.d (.int i)) s k = k (some i) s := rfl
/-! statements -/
section
variable {u v : Sm} {j : Fl → Loc → Sto → Res β}
@[simp ↓] theorem sk_nil : sk cf g .nil l s j = j .nx l s := rfl
@[simp ↓] theorem sk_cons : sk cf g (.cons u v) l s j = sk cf g u l s fun f l1 s1 => flK f (sk cf g v l1 s1 j) (j f l1 s1) := by
  unfold sk
  show Res.bind (Res.bind _ _) _ = _
  rw [bind_assoc]
  congr 1
  funext fl s1
  obtain ⟨f, l1⟩ := fl
  cases f <;> rfl
@[simp ↓] theorem fl_nx {p q : Res β} : flK .nx p q = p := rfl
@[simp ↓] theorem fl_rt {d : D} {p q : Res β} : flK (.rt d) p q = q := rfl
@[simp ↓] theorem fl_bk {p q : Res β} : flK .bk p q = q := rfl
@[simp ↓] theorem fl_ct {p q : Res β} : flK .ct p q = q := rfl
@[simp ↓] theorem sk_ex : sk cf g (.ex a) l s j = ev cf g a l s fun _ s1 => j .nx l s1 := bind_assoc _ _ _
@[simp ↓] theorem sk_set : sk cf g (.set tg a) l s j = evv cf g a l s fun d s1 => btK (bindT tg d l) fun l1 => j .nx l1 s1 := by
  unfold sk
  show Res.bind (Res.bind _ _) _ = _
  rw [bind_assoc]
  unfold evv
  congr 1
  funext d s1
  generalize bindT tg d l = o
  cases o <;> rfl
@[simp ↓] theorem sk_setI : sk cf g (.setI o a b) l s j = evv cf g b l s fun d s1 => evv cf g o l s1 fun p s2 => evv cf g a l s2 fun q s3 => resK (setR p q d s3) fun _ s4 => j .nx l s4 := by unfold sk; show Res.bind (Res.bind _ _) _ = _; simp only [bind_assoc]; rfl
@[simp ↓] theorem sk_ret : sk cf g (.ret a) l s j = evv cf g a l s fun d s1 => j (.rt d) l s1 := bind_assoc _ _ _
@[simp ↓] theorem sk_retN : sk cf g .retN l s j = j (.rt .non) l s := rfl
@[simp ↓] theorem sk_ifs : sk cf g (.ifs c u v) l s j = evb cf g c l s fun t s1 => if t = true then sk cf g u l s1 j else sk cf g v l s1 j := by
  unfold sk
  show Res.bind (Res.bind _ _) _ = _
  rw [bind_assoc]
  unfold evb
  congr 1
  funext t s1
  cases t <;> rfl
@[simp ↓] theorem sk_for : sk cf g (.for_ tg a u) l s j = evi cf g a l s fun its s1 => forK tg its.src (sden cf g u) its.ds l s1 j := bind_assoc _ _ _
@[simp ↓] theorem sk_wh : sk cf g (.wh c u) l s j = whK (den cf g c).b (sden cf g u) whileFuel l s j := rfl
@[simp ↓] theorem sk_brk : sk cf g .brk l s j = j .bk l s := rfl
@[simp ↓] theorem sk_cnt : sk cf g .cnt l s j = j .ct l s := rfl
@[simp ↓] theorem sk_pass : sk cf g .pass l s j = j .nx l s := rfl
theorem fold_sk : (sden cf g u l s).bind (fun fl s1 => j fl.1 fl.2 s1) = sk cf g u l s j := rfl
@[simp ↓] theorem bt_v0 {r : Loc} {o : Option D} {d : D} {f : Loc → Res β} : btK (bindT (.v 0) d (o :: r)) f = f (some d :: r) := by unfold bindT; simp [btK]
@[simp ↓] theorem bt_v1 {x0 : Option D} {r : Loc} {o : Option D} {d : D} {f : Loc → Res β} : btK (bindT (.v 1) d (x0 :: o :: r)) f = f (x0 :: some d :: r) := by unfold bindT; simp [btK]
@[simp ↓] theorem bt_v2 {x0 x1 : Option D} {r : Loc} {o : Option D} {d : D} {f : Loc → Res β} : btK (bindT (.v 2) d (x0 :: x1 :: o :: r)) f = f (x0 :: x1 :: some d :: r) := by unfold bindT; simp [btK]
@[simp ↓] theorem bt_v3 {x0 x1 x2 : Option D} {r : Loc} {o : Option D} {d : D} {f : Loc → Res β} : btK (bindT (.v 3) d (x0 :: x1 :: x2 :: o :: r)) f = f (x0 :: x1 :: x2 :: some d :: r) := by unfold bindT; simp [btK]
@[simp ↓] theorem bt_v4 {x0 x1 x2 x3 : Option D} {r : Loc} {o : Option D} {d : D} {f : Loc → Res β} : btK (bindT (.v 4) d (x0 :: x1 :: x2 :: x3 :: o :: r)) f = f (x0 :: x1 :: x2 :: x3 :: some d :: r) := by unfold bindT; simp [btK]
@[simp ↓] theorem bt_v5 {x0 x1 x2 x3 x4 : Option D} {r : Loc} {o : Option D} {d : D} {f : Loc → Res β} : btK (bindT (.v 5) d (x0 :: x1 :: x2 :: x3 :: x4 :: o :: r)) f = f (x0 :: x1 :: x2 :: x3 :: x4 :: some d :: r) := by unfold bindT; simp [btK]
@[simp ↓] theorem bt_v6 {x0 x1 x2 x3 x4 x5 : Option D} {r : Loc} {o : Option D} {d : D} {f : Loc → Res β} : btK (bindT (.v 6) d (x0 :: x1 :: x2 :: x3 :: x4 :: x5 :: o :: r)) f = f (x0 :: x1 :: x2 :: x3 :: x4 :: x5 :: some d :: r) := by unfold bindT; simp [btK]
@[simp ↓] theorem bt_v7 {x0 x1 x2 x3 x4 x5 x6 : Option D} {r : Loc} {o : Option D} {d : D} {f : Loc → Res β} : btK (bindT (.v 7) d (x0 :: x1 :: x2 :: x3 :: x4 :: x5 :: x6 :: o :: r)) f = f (x0 :: x1 :: x2 :: x3 :: x4 :: x5 :: x6 :: some d :: r) := by unfold bindT; simp [btK]
@[simp ↓] theorem bt_v8 {x0 x1 x2 x3 x4 x5 x6 x7 : Option D} {r : Loc} {o : Option D} {d : D} {f : Loc → Res β} : btK (bindT (.v 8) d (x0 :: x1 :: x2 :: x3 :: x4 :: x5 :: x6 :: x7 :: o :: r)) f = f (x0 :: x1 :: x2 :: x3 :: x4 :: x5 :: x6 :: x7 :: some d :: r) := by unfold bindT; simp [btK]
@[simp ↓] theorem bt_v9 {x0 x1 x2 x3 x4 x5 x6 x7 x8 : Option D} {r : Loc} {o : Option D} {d : D} {f : Loc → Res β} : btK (bindT (.v 9) d (x0 :: x1 :: x2 :: x3 :: x4 :: x5 :: x6 :: x7 :: x8 :: o :: r)) f = f (x0 :: x1 :: x2 :: x3 :: x4 :: x5 :: x6 :: x7 :: x8 :: some d :: r) := by unfold bindT; simp [btK]
@[simp ↓] theorem bt_v10 {x0 x1 x2 x3 x4 x5 x6 x7 x8 x9 : Option D} {r : Loc} {o : Option D} {d : D} {f : Loc → Res β} : btK (bindT (.v 10) d (x0 :: x1 :: x2 :: x3 :: x4 :: x5 :: x6 :: x7 :: x8 :: x9 :: o :: r)) f = f (x0 :: x1 :: x2 :: x3 :: x4 :: x5 :: x6 :: x7 :: x8 :: x9 :: some d :: r) := by unfold bindT; simp [btK]
@[simp ↓] theorem bt_v11 {x0 x1 x2 x3 x4 x5 x6 x7 x8 x9 x10 : Option D} {r : Loc} {o : Option D} {d : D} {f : Loc → Res β} : btK (bindT (.v 11) d (x0 :: x1 :: x2 :: x3 :: x4 :: x5 :: x6 :: x7 :: x8 :: x9 :: x10 :: o :: r)) f = f (x0 :: x1 :: x2 :: x3 :: x4 :: x5 :: x6 :: x7 :: x8 :: x9 :: x10 :: some d :: r) := by unfold bindT; simp [btK]
@[simp ↓] theorem bt_v12 {x0 x1 x2 x3 x4 x5 x6 x7 x8 x9 x10 x11 : Option D} {r : Loc} {o : Option D} {d : D} {f : Loc → Res β} : btK (bindT (.v 12) d (x0 :: x1 :: x2 :: x3 :: x4 :: x5 :: x6 :: x7 :: x8 :: x9 :: x10 :: x11 :: o :: r)) f = f (x0 :: x1 :: x2 :: x3 :: x4 :: x5 :: x6 :: x7 :: x8 :: x9 :: x10 :: x11 :: some d :: r) := by unfold bindT; simp [btK]
@[simp ↓] theorem bt_v13 {x0 x1 x2 x3 x4 x5 x6 x7 x8 x9 x10 x11 x12 : Option D} {r : Loc} {o : Option D} {d : D} {f : Loc → Res β} : btK (bindT (.v 13) d (x0 :: x1 :: x2 :: x3 :: x4 :: x5 :: x6 :: x7 :: x8 :: x9 :: x10 :: x11 :: x12 :: o :: r)) f = f (x0 :: x1 :: x2 :: x3 :: x4 :: x5 :: x6 :: x7 :: x8 :: x9 :: x10 :: x11 :: x12 :: some d :: r) := by unfold bindT; simp [btK]
@[simp ↓] theorem bt_v14 {x0 x1 x2 x3 x4 x5 x6 x7 x8 x9 x10 x11 x12 x13 : Option D} {r : Loc} {o : Option D} {d : D} {f : Loc → Res β} : btK (bindT (.v 14) d (x0 :: x1 :: x2 :: x3 :: x4 :: x5 :: x6 :: x7 :: x8 :: x9 :: x10 :: x11 :: x12 :: x13 :: o :: r)) f = f (x0 :: x1 :: x2 :: x3 :: x4 :: x5 :: x6 :: x7 :: x8 :: x9 :: x10 :: x11 :: x12 :: x13 :: some d :: r) := by unfold bindT; simp [btK]
@[simp ↓] theorem bt_v15 {x0 x1 x2 x3 x4 x5 x6 x7 x8 x9 x10 x11 x12 x13 x14 : Option D} {r : Loc} {o : Option D} {d : D} {f : Loc → Res β} : btK (bindT (.v 15) d (x0 :: x1 :: x2 :: x3 :: x4 :: x5 :: x6 :: x7 :: x8 :: x9 :: x10 :: x11 :: x12 :: x13 :: x14 :: o :: r)) f = f (x0 :: x1 :: x2 :: x3 :: x4 :: x5 :: x6 :: x7 :: x8 :: x9 :: x10 :: x11 :: x12 :: x13 :: x14 :: some d :: r) := by unfold bindT; simp [btK]
@[simp ↓] theorem sk_aug0 {p : Bop} {r : Loc} {d : D} {j : Fl → Loc → Sto → Res β} : sk cf g (.aug 0 p a) (some d :: r) s j = ev cf g a (some d :: r) s fun y s1 => opK (augR p d y) s1 fun d2 s2 => j .nx (some d2 :: r) s2 := by unfold sk; show Res.bind (Res.bind _ _) _ = _; simp only [bind_assoc]; rfl
@[simp ↓] theorem sk_aug1 {p : Bop} {x0 : Option D} {r : Loc} {d : D} {j : Fl → Loc → Sto → Res β} : sk cf g (.aug 1 p a) (x0 :: some d :: r) s j = ev cf g a (x0 :: some d :: r) s fun y s1 => opK (augR p d y) s1 fun d2 s2 => j .nx (x0 :: some d2 :: r) s2 := by unfold sk; show Res.bind (Res.bind _ _) _ = _; simp only [bind_assoc]; rfl
@[simp ↓] theorem sk_aug2 {p : Bop} {x0 x1 : Option D} {r : Loc} {d : D} {j : Fl → Loc → Sto → Res β} : sk cf g (.aug 2 p a) (x0 :: x1 :: some d :: r) s j = ev cf g a (x0 :: x1 :: some d :: r) s fun y s1 => opK (augR p d y) s1 fun d2 s2 => j .nx (x0 :: x1 :: some d2 :: r) s2 := by unfold sk; show Res.bind (Res.bind _ _) _ = _; simp only [bind_assoc]; rfl
@[simp ↓] theorem sk_aug3 {p : Bop} {x0 x1 x2 : Option D} {r : Loc} {d : D} {j : Fl → Loc → Sto → Res β} : sk cf g (.aug 3 p a) (x0 :: x1 :: x2 :: some d :: r) s j = ev cf g a (x0 :: x1 :: x2 :: some d :: r) s fun y s1 => opK (augR p d y) s1 fun d2 s2 => j .nx (x0 :: x1 :: x2 :: some d2 :: r) s2 := by unfold sk; show Res.bind (Res.bind _ _) _ = _; simp only [bind_assoc]; rfl
@[simp ↓] theorem sk_aug4 {p : Bop} {x0 x1 x2 x3 : Option D} {r : Loc} {d : D} {j : Fl → Loc → Sto → Res β} : sk cf g (.aug 4 p a) (x0 :: x1 :: x2 :: x3 :: some d :: r) s j = ev cf g a (x0 :: x1 :: x2 :: x3 :: some d :: r) s fun y s1 => opK (augR p d y) s1 fun d2 s2 => j .nx (x0 :: x1 :: x2 :: x3 :: some d2 :: r) s2 := by unfold sk; show Res.bind (Res.bind _ _) _ = _; simp only [bind_assoc]; rfl
@[simp ↓] theorem sk_aug5 {p : Bop} {x0 x1 x2 x3 x4 : Option D} {r : Loc} {d : D} {j : Fl → Loc → Sto → Res β} : sk cf g (.aug 5 p a) (x0 :: x1 :: x2 :: x3 :: x4 :: some d :: r) s j = ev cf g a (x0 :: x1 :: x2 :: x3 :: x4 :: some d :: r) s fun y s1 => opK (augR p d y) s1 fun d2 s2 => j .nx (x0 :: x1 :: x2 :: x3 :: x4 :: some d2 :: r) s2 := by unfold sk; show Res.bind (Res.bind _ _) _ = _; simp only [bind_assoc]; rfl
@[simp ↓] theorem sk_aug6 {p : Bop} {x0 x1 x2 x3 x4 x5 : Option D} {r : Loc} {d : D} {j : Fl → Loc → Sto → Res β} : sk cf g (.aug 6 p a) (x0 :: x1 :: x2 :: x3 :: x4 :: x5 :: some d :: r) s j = ev cf g a (x0 :: x1 :: x2 :: x3 :: x4 :: x5 :: some d :: r) s fun y s1 => opK (augR p d y) s1 fun d2 s2 => j .nx (x0 :: x1 :: x2 :: x3 :: x4 :: x5 :: some d2 :: r) s2 := by unfold sk; show Res.bind (Res.bind _ _) _ = _; simp only [bind_assoc]; rfl
@[simp ↓] theorem sk_aug7 {p : Bop} {x0 x1 x2 x3 x4 x5 x6 : Option D} {r : Loc} {d : D} {j : Fl → Loc → Sto → Res β} : sk cf g (.aug 7 p a) (x0 :: x1 :: x2 :: x3 :: x4 :: x5 :: x6 :: some d :: r) s j = ev cf g a (x0 :: x1 :: x2 :: x3 :: x4 :: x5 :: x6 :: some d :: r) s fun y s1 => opK (augR p d y) s1 fun d2 s2 => j .nx (x0 :: x1 :: x2 :: x3 :: x4 :: x5 :: x6 :: some d2 :: r) s2 := by unfold sk; show Res.bind (Res.bind _ _) _ = _; simp only [bind_assoc]; rfl
@[simp ↓] theorem sk_aug8 {p : Bop} {x0 x1 x2 x3 x4 x5 x6 x7 : Option D} {r : Loc} {d : D} {j : Fl → Loc → Sto → Res β} : sk cf g (.aug 8 p a) (x0 :: x1 :: x2 :: x3 :: x4 :: x5 :: x6 :: x7 :: some d :: r) s j = ev cf g a (x0 :: x1 :: x2 :: x3 :: x4 :: x5 :: x6 :: x7 :: some d :: r) s fun y s1 => opK (augR p d y) s1 fun d2 s2 => j .nx (x0 :: x1 :: x2 :: x3 :: x4 :: x5 :: x6 :: x7 :: some d2 :: r) s2 := by unfold sk; show Res.bind (Res.bind _ _) _ = _; simp only [bind_assoc]; rfl
@[simp ↓] theorem sk_aug9 {p : Bop} {x0 x1 x2 x3 x4 x5 x6 x7 x8 : Option D} {r : Loc} {d : D} {j : Fl → Loc → Sto → Res β} : sk cf g (.aug 9 p a) (x0 :: x1 :: x2 :: x3 :: x4 :: x5 :: x6 :: x7 :: x8 :: some d :: r) s j = ev cf g a (x0 :: x1 :: x2 :: x3 :: x4 :: x5 :: x6 :: x7 :: x8 :: some d :: r) s fun y s1 => opK (augR p d y) s1 fun d2 s2 => j .nx (x0 :: x1 :: x2 :: x3 :: x4 :: x5 :: x6 :: x7 :: x8 :: some d2 :: r) s2 := by unfold sk; show Res.bind (Res.bind _ _) _ = _; simp only [bind_assoc]; rfl
@[simp ↓] theorem sk_aug10 {p : Bop} {x0 x1 x2 x3 x4 x5 x6 x7 x8 x9 : Option D} {r : Loc} {d : D} {j : Fl → Loc → Sto → Res β} : sk cf g (.aug 10 p a) (x0 :: x1 :: x2 :: x3 :: x4 :: x5 :: x6 :: x7 :: x8 :: x9 :: some d :: r) s j = ev cf g a (x0 :: x1 :: x2 :: x3 :: x4 :: x5 :: x6 :: x7 :: x8 :: x9 :: some d :: r) s fun y s1 => opK (augR p d y) s1 fun d2 s2 => j .nx (x0 :: x1 :: x2 :: x3 :: x4 :: x5 :: x6 :: x7 :: x8 :: x9 :: some d2 :: r) s2 := by unfold sk; show Res.bind (Res.bind _ _) _ = _; simp only [bind_assoc]; rfl
@[simp ↓] theorem sk_aug11 {p : Bop} {x0 x1 x2 x3 x4 x5 x6 x7 x8 x9 x10 : Option D} {r : Loc} {d : D} {j : Fl → Loc → Sto → Res β} : sk cf g (.aug 11 p a) (x0 :: x1 :: x2 :: x3 :: x4 :: x5 :: x6 :: x7 :: x8 :: x9 :: x10 :: some d :: r) s j = ev cf g a (x0 :: x1 :: x2 :: x3 :: x4 :: x5 :: x6 :: x7 :: x8 :: x9 :: x10 :: some d :: r) s fun y s1 => opK (augR p d y) s1 fun d2 s2 => j .nx (x0 :: x1 :: x2 :: x3 :: x4 :: x5 :: x6 :: x7 :: x8 :: x9 :: x10 :: some d2 :: r) s2 := by unfold sk; show Res.bind (Res.bind _ _) _ = _; simp only [bind_assoc]; rfl
@[simp ↓] theorem sk_aug12 {p : Bop} {x0 x1 x2 x3 x4 x5 x6 x7 x8 x9 x10 x11 : Option D} {r : Loc} {d : D} {j : Fl → Loc → Sto → Res β} : sk cf g (.aug 12 p a) (x0 :: x1 :: x2 :: x3 :: x4 :: x5 :: x6 :: x7 :: x8 :: x9 :: x10 :: x11 :: some d :: r) s j = ev cf g a (x0 :: x1 :: x2 :: x3 :: x4 :: x5 :: x6 :: x7 :: x8 :: x9 :: x10 :: x11 :: some d :: r) s fun y s1 => opK (augR p d y) s1 fun d2 s2 => j .nx (x0 :: x1 :: x2 :: x3 :: x4 :: x5 :: x6 :: x7 :: x8 :: x9 :: x10 :: x11 :: some d2 :: r) s2 := by unfold sk; show Res.bind (Res.bind _ _) _ = _; simp only [bind_assoc]; rfl
@[simp ↓] theorem sk_aug13 {p : Bop} {x0 x1 x2 x3 x4 x5 x6 x7 x8 x9 x10 x11 x12 : Option D} {r : Loc} {d : D} {j : Fl → Loc → Sto → Res β} : sk cf g (.aug 13 p a) (x0 :: x1 :: x2 :: x3 :: x4 :: x5 :: x6 :: x7 :: x8 :: x9 :: x10 :: x11 :: x12 :: some d :: r) s j = ev cf g a (x0 :: x1 :: x2 :: x3 :: x4 :: x5 :: x6 :: x7 :: x8 :: x9 :: x10 :: x11 :: x12 :: some d :: r) s fun y s1 => opK (augR p d y) s1 fun d2 s2 => j .nx (x0 :: x1 :: x2 :: x3 :: x4 :: x5 :: x6 :: x7 :: x8 :: x9 :: x10 :: x11 :: x12 :: some d2 :: r) s2 := by unfold sk; show Res.bind (Res.bind _ _) _ = _; simp only [bind_assoc]; rfl
@[simp ↓] theorem sk_aug14 {p : Bop} {x0 x1 x2 x3 x4 x5 x6 x7 x8 x9 x10 x11 x12 x13 : Option D} {r : Loc} {d : D} {j : Fl → Loc → Sto → Res β} : sk cf g (.aug 14 p a) (x0 :: x1 :: x2 :: x3 :: x4 :: x5 :: x6 :: x7 :: x8 :: x9 :: x10 :: x11 :: x12 :: x13 :: some d :: r) s j = ev cf g a (x0 :: x1 :: x2 :: x3 :: x4 :: x5 :: x6 :: x7 :: x8 :: x9 :: x10 :: x11 :: x12 :: x13 :: some d :: r) s fun y s1 => opK (augR p d y) s1 fun d2 s2 => j .nx (x0 :: x1 :: x2 :: x3 :: x4 :: x5 :: x6 :: x7 :: x8 :: x9 :: x10 :: x11 :: x12 :: x13 :: some d2 :: r) s2 := by unfold sk; show Res.bind (Res.bind _ _) _ = _; simp only [bind_assoc]; rfl
@[simp ↓] theorem sk_aug15 {p : Bop} {x0 x1 x2 x3 x4 x5 x6 x7 x8 x9 x10 x11 x12 x13 x14 : Option D} {r : Loc} {d : D} {j : Fl → Loc → Sto → Res β} : sk cf g (.aug 15 p a) (x0 :: x1 :: x2 :: x3 :: x4 :: x5 :: x6 :: x7 :: x8 :: x9 :: x10 :: x11 :: x12 :: x13 :: x14 :: some d :: r) s j = ev cf g a (x0 :: x1 :: x2 :: x3 :: x4 :: x5 :: x6 :: x7 :: x8 :: x9 :: x10 :: x11 :: x12 :: x13 :: x14 :: some d :: r) s fun y s1 => opK (augR p d y) s1 fun d2 s2 => j .nx (x0 :: x1 :: x2 :: x3 :: x4 :: x5 :: x6 :: x7 :: x8 :: x9 :: x10 :: x11 :: x12 :: x13 :: x14 :: some d2 :: r) s2 := by unfold sk; show Res.bind (Res.bind _ _) _ = _; simp only [bind_assoc]; rfl
@[simp ↓] theorem bt_2 {t1 t2 : Tg} {x y : D} {f : Loc → Res β} : btK (bindT (.c t1 (.c t2 .n)) (.tup [x, y]) l) f = btK (bindT t1 x l) fun l1 => btK (bindT t2 y l1) f := by
  have e : bindT (.c t1 (.c t2 .n)) (.tup [x, y]) l = (bindT t1 x l).bind fun l1 => (bindT t2 y l1).bind some := by
    simp only [bindT, bindTs]
  rw [e]
  cases bindT t1 x l with
  | none => rfl
  | some l1 =>
    show btK ((bindT t2 y l1).bind some) f = btK (bindT t2 y l1) f
    cases bindT t2 y l1 <;> rfl
end
/-! loops -/
theorem for_nil {src : Option (Nat × List D)} {b : SM} {j : Fl → Loc → Sto → Res β} (h : srcOk src s) : forK tg src b [] l s j = j .nx l s := by unfold forK forLoop; rw [if_pos h]; rfl
theorem for_cons {src : Option (Nat × List D)} {u : Sm} {x : D} {r : List D} {j : Fl → Loc → Sto → Res β} (h : srcOk src s) :
    forK tg src (sden cf g u) (x :: r) l s j = btK (bindT tg x l) fun l1 => sk cf g u l1 s fun f l2 s2 => (match f with
      | .nx => forK tg src (sden cf g u) r l2 s2 j
      | .ct => forK tg src (sden cf g u) r l2 s2 j
      | .bk => j .nx l2 s2
      | .rt d => j (.rt d) l2 s2) := by
  unfold forK
  rw [forLoop, if_pos h]
  cases bindT tg x l with
  | none => rfl
  | some l1 =>
    simp only [btK, bind_assoc]
    unfold sk
    congr 1
    funext fl s1
    obtain ⟨f, l2⟩ := fl
    cases f <;> rfl
theorem cp_nil {src : Option (Nat × List D)} {c : M Bool} {e : M D} {acc : List D} {j : List D → Sto → Res β} (h : srcOk src s) : cpK tg src c e l [] acc s j = j acc s := by unfold cpK cpLoop; rw [if_pos h]; rfl
theorem cp_cons {src : Option (Nat × List D)} {x : D} {r acc : List D} {j : List D → Sto → Res β} (h : srcOk src s) (hl : acc.length < sizeLine) :
    cpK tg src (den cf g c).b (den cf g elt).v l (x :: r) acc s j = btK (bindT tg x l) fun l1 => evb cf g c l1 s fun t s1 => if t = true then evv cf g elt l1 s1 fun y s2 => cpK tg src (den cf g c).b (den cf g elt).v l r (acc ++ [y]) s2 j
      else cpK tg src (den cf g c).b (den cf g elt).v l r acc s1 j := by
  unfold cpK
  rw [cpLoop, if_pos h]
  cases bindT tg x l with
  | none => rfl
  | some l1 =>
    simp only [btK, bind_assoc]
    unfold evb
    congr 1
    funext t s1
    cases t
    · rfl
    · simp only [bind_assoc, if_true]
      unfold evv
      congr 1
      funext y s2
      rw [if_pos hl]
end
/-! operations on data of a known form -/
section
variable {s : Sto} {i j : Int} {x y : Str} {xs ys : List D} {d : D}
@[simp] theorem at0 {α : Type} {a : α} {r : List α} : atI (a :: r) 0 = some a := atI_nat (j := 0) rfl
@[simp] theorem at1 {α : Type} {a b : α} {r : List α} : atI (a :: b :: r) 1 = some b := atI_nat (j := 1) rfl
@[simp] theorem at2 {α : Type} {a b c : α} {r : List α} : atI (a :: b :: c :: r) 2 = some c := atI_nat (j := 2) rfl
@[simp] theorem ix0 {n : Nat} : ixN (n + 1) 0 = some 0 := by unfold ixN; rw [if_pos (by decide), if_pos (by omega)]; rfl
@[simp] theorem ix1 {n : Nat} : ixN (n + 1 + 1) 1 = some 1 := by unfold ixN; rw [if_pos (by decide), if_pos (by omega)]; rfl
@[simp] theorem ix12 : ixN 1 0 = some 0 := rfl
@[simp] theorem ix20 : ixN 2 0 = some 0 := rfl
@[simp] theorem ix21 : ixN 2 1 = some 1 := rfl
@[simp] theorem at3 {α : Type} {a b c e : α} {r : List α} : atI (a :: b :: c :: e :: r) 3 = some e := atI_nat (j := 3) rfl
@[simp] theorem bin_add : binR .add s (.d (.int i)) (.d (.int j)) = some (.d (.int (i + j))) := rfl
@[simp] theorem bin_sub : binR .sub s (.d (.int i)) (.d (.int j)) = some (.d (.int (i - j))) := rfl
open Classical in
@[simp] theorem bin_mul (h : CMul i j) : binR .mul s (.d (.int i)) (.d (.int j)) = some (.d (.int (i * j))) := by show (if CMul i j then some (i * j) else none).map _ = _; rw [if_pos h]; rfl
open Classical in
@[simp] theorem bin_fdiv (h : CDivN i j) : binR .fdiv s (.d (.int i)) (.d (.int j)) = some (.d (.int (i.fdiv j))) := by show (if CDivN i j then some (i.fdiv j) else none).map _ = _; rw [if_pos h]; rfl
@[simp] theorem bin_mod (h : j ≠ 0) : binR .mod s (.d (.int i)) (.d (.int j)) = some (.d (.int (i.fmod j))) := by show (if j ≠ 0 then some (i.fmod j) else none).map _ = _; rw [if_pos h]; rfl
@[simp] theorem bin_str (h : x.length + y.length ≤ sizeLine) : binR .add s (.d (.str x)) (.d (.str y)) = some (.d (.str (x ++ y))) := by show (if Bop.add = .add ∧ x.length + y.length ≤ sizeLine then _ else none) = _; rw [if_pos ⟨rfl, h⟩]
@[simp] theorem bin_tup (h : xs.length + ys.length ≤ sizeLine) : binR .add s (.d (.tup xs)) (.d (.tup ys)) = some (.d (.tup (xs ++ ys))) := by show (if Bop.add = .add then catR xs ys fun zs => .d (.tup zs) else none) = _; rw [if_pos rfl]; unfold catR; rw [if_pos h]
@[simp] theorem cmp_eq {a b : RD} : cmpR .eq s a b = eqR s a b := rfl
@[simp] theorem cmp_ne {a b : RD} : cmpR .ne s a b = (eqR s a b).map (!·) := rfl
@[simp] theorem cmp_lt : cmpR .lt s (.d (.int i)) (.d (.int j)) = some (decide (i < j)) := rfl
@[simp] theorem cmp_gt : cmpR .gt s (.d (.int i)) (.d (.int j)) = some (decide (j < i)) := rfl
@[simp] theorem cmp_le : cmpR .le s (.d (.int i)) (.d (.int j)) = some (decide (i ≤ j)) := rfl
@[simp] theorem cmp_ge : cmpR .ge s (.d (.int i)) (.d (.int j)) = some (decide (j ≤ i)) := rfl
@[simp] theorem cmp_in {a b : RD} : cmpR .inn s a b = inR s a b := rfl
@[simp] theorem cmp_nin {a b : RD} : cmpR .nin s a b = (inR s a b).map (!·) := rfl
@[simp] theorem cmp_is {a b : RD} : cmpR .is s a b = isR a b := rfl
@[simp] theorem cmp_isn {a b : RD} : cmpR .isn s a b = (isR a b).map (!·) := rfl
theorem int_beq : (i == j) = decide (i = j) := by by_cases h : i = j <;> simp [h]
theorem str_beq : (x == y) = decide (x = y) := by by_cases h : x = y <;> simp [h]
@[simp] theorem eq_int : eqR s (.d (.int i)) (.d (.int j)) = some (decide (i = j)) := by
  show (if SeqAt.shaped (.int i) = true ∧ SeqAt.shaped (.int j) = true then some (PyData.eqv (.int i) (.int j)) else none) = _
  rw [if_pos ⟨rfl, rfl⟩, ← int_beq]
  simp only [PyData.eqv]
theorem sh_str (h : PyData.canLay0 (.str x) = true) : SeqAt.shaped (.str x) = true := by
  unfold SeqAt.shaped
  rw [h]
  rfl
@[simp] theorem eq_str (hx : PyData.canLay0 (.str x) = true) (hy : PyData.canLay0 (.str y) = true) : eqR s (.d (.str x)) (.d (.str y)) = some (decide (x = y)) := by
  show (if SeqAt.shaped (.str x) = true ∧ SeqAt.shaped (.str y) = true then some (PyData.eqv (.str x) (.str y)) else none) = _
  rw [if_pos ⟨sh_str hx, sh_str hy⟩, ← str_beq]
  simp only [PyData.eqv]
@[simp] theorem asL_l : asL s (.l xs) = some xs := rfl
@[simp] theorem asL_lf : asL s (.d (.lf xs)) = some xs := rfl
@[simp] theorem asL_obj {k : Nat} : asL s (.d (.obj k)) = lstAt s k := rfl
@[simp] theorem asL_tup : asL s (.d (.tup xs)) = none := rfl
@[simp] theorem asM_l : asM s (.l xs) = some xs := rfl
@[simp] theorem asM_obj {k : Nat} : asM s (.d (.obj k)) = lstAt s k := rfl
@[simp] theorem asQ_l : asQ s (.l xs) = some xs := rfl
@[simp] theorem asQ_lf : asQ s (.d (.lf xs)) = some xs := rfl
@[simp] theorem asQ_tup : asQ s (.d (.tup xs)) = some xs := rfl
@[simp] theorem asQ_obj {k : Nat} : asQ s (.d (.obj k)) = lstAt s k := rfl
theorem lstAt_of {k : Nat} (h : s[k]? = some (.lst xs)) : lstAt s k = some xs := by unfold lstAt; rw [h]
@[simp] theorem lstAt_eq {k : Nat} : lstAt s k = match s[k]? with
    | some (.lst xs) => some xs
    | _ => none := rfl
@[simp] theorem isLst_of {k : Nat} : isLstB s (.obj k) = (lstAt s k).isSome := rfl
theorem cat_l {a b : RD} (h1 : asM s a = some xs) (h2 : asM s b = some ys) (h : xs.length + ys.length ≤ sizeLine) : binR .add s a b = some (.l (xs ++ ys)) := by
  have key : (match asM s a, asM s b with | some xs, some ys => if Bop.add = .add then catR xs ys .l else none | _, _ => none) = some (.l (xs ++ ys)) := by
    rw [h1, h2]
    show (if Bop.add = .add then catR xs ys .l else none) = _
    rw [if_pos rfl]; unfold catR; rw [if_pos h]
  cases a with
  | l z => exact key
  | d z => cases z with
    | obj k => exact key
    | _ => cases h1
@[simp] theorem ix_tup : ixR s (.d (.tup xs)) (.d (.int i)) = (atI xs i).map .d := rfl
@[simp] theorem ix_l : ixR s (.l xs) (.d (.int i)) = (atI xs i).map .d := rfl
@[simp] theorem ix_lf : ixR s (.d (.lf xs)) (.d (.int i)) = (atI xs i).map .d := rfl
@[simp] theorem ix_obj {k : Nat} : ixR s (.d (.obj k)) (.d (.int i)) = (lstAt s k).bind fun xs => (atI xs i).map .d := rfl
@[simp] theorem its_tup : itsR s (.d (.tup xs)) = some ⟨xs, none⟩ := rfl
@[simp] theorem its_lf : itsR s (.d (.lf xs)) = some ⟨xs, none⟩ := rfl
@[simp] theorem its_l : itsR s (.l xs) = some ⟨xs, none⟩ := rfl
@[simp] theorem its_any {k : Nat} : itsR s (.d (.obj k)) = match s[k]? with
    | some (.lst xs) => some ⟨xs, some (k, xs)⟩
    | _ => none := rfl
theorem its_obj {k : Nat} (h : s[k]? = some (.lst xs)) : itsR s (.d (.obj k)) = some ⟨xs, some (k, xs)⟩ := by unfold itsR; simp only; rw [h]
@[simp] theorem tr_bl {t : Bool} : truthR s (.d (.bl t)) = some t := rfl
theorem set_r {k : Nat} {z : Nat} (h : s[k]? = some (.lst xs)) (hi : ixN xs.length i = some z) : setR (.obj k) (.int i) d s = .ok () (s.set k (.lst (xs.set z d))) := by
  unfold setR
  simp only
  rw [h]
  simp only
  rw [hi]
@[simp] theorem setR_any {k : Nat} : setR (.obj k) (.int i) d s = match s[k]? with
    | some (.lst xs) => (match ixN xs.length i with
      | some z => .ok () (s.set k (.lst (xs.set z d)))
      | none => .no)
    | _ => .no := rfl
theorem set_r0 {k : Nat} {z : D} {r : List D} (h : s[k]? = some (.lst (z :: r))) : setR (.obj k) (.int 0) d s = .ok () (s.set k (.lst (d :: r))) := set_r (z := 0) h (by unfold ixN; simp)
theorem set_r1 {k : Nat} {z y : D} {r : List D} (h : s[k]? = some (.lst (z :: y :: r))) : setR (.obj k) (.int 1) d s = .ok () (s.set k (.lst (z :: d :: r))) := set_r (z := 1) h (by
  unfold ixN
  have e : (1 : Int) < ((z :: y :: r).length : Nat) := by simp only [List.length_cons]; omega
  rw [if_pos (by decide), if_pos e]; rfl)
theorem mul_small (h1 : 0 ≤ i) (h2 : i < 18446744073709551616) : CMul i j := .inl ⟨by omega, by omega⟩
theorem mul_const (h1 : -18446744073709551616 < j) (h2 : j < 18446744073709551616) : CMul i j := .inr ⟨by omega, by omega⟩
theorem div_small (h1 : 0 < j) (h2 : j < 1073741824) : CDivN i j := ⟨by omega, by omega⟩
@[simp] theorem max_int : b2R .max s (.d (.int i)) (.d (.int j)) = some (.d (.int (if j > i then j else i))) := rfl
@[simp] theorem min_int : b2R .min s (.d (.int i)) (.d (.int j)) = some (.d (.int (if j < i then j else i))) := rfl
@[simp] theorem small_le {n : Nat} : ((n : Nat) ≤ sizeLine) = (n ≤ 16777216) := by rw [sizeLine_eq]
end
/-! calls -/
def finK (n : Nat) (f : Fl) (_ : Loc) (s : Sto) : Res D := match f with
  | .nx => fin n .non s
  | .rt d => fin n d s
  | _ => .no
@[simp ↓] theorem fin_nx {n : Nat} {l : Loc} {s : Sto} : finK n .nx l s = fin n .non s := rfl
@[simp ↓] theorem fin_rt {n : Nat} {l : Loc} {s : Sto} {d : D} : finK n (.rt d) l s = fin n d s := rfl
theorem call_at {T : Tab} {n i : Nat} {F : Fn} {ds : List D} {s : Sto} (h : T.fns[i]? = some F) (hl : ds.length = F.ps.length) : callN T (n + 1) i ds s = sk (callN T n) T.gc F.body (ds.map some ++ List.replicate (F.ns.length - ds.length) none) s (finK s.length) := by
  unfold callN
  rw [h]
  show runFn _ _ _ _ _ = _
  unfold runFn
  rw [if_pos hl]
  rfl
/-- everything in the store leans on the store alone -/
def Clo (s : Sto) : Prop := s.all (Ob.lt s.length) = true
mutual
theorem lt_le {m n : Nat} (h : m ≤ n) : ∀ d : D, d.lt m = true → d.lt n = true
  | .non, _ => rfl
  | .bl _, _ => rfl
  | .int _, _ => rfl
  | .str _, _ => rfl
  | .tup xs, q => by unfold D.lt at *; exact ltAll_le h xs q
  | .lf xs, q => by unfold D.lt at *; exact ltAll_le h xs q
  | .obj i, q => by unfold D.lt at *; exact decide_eq_true (Nat.lt_of_lt_of_le (of_decide_eq_true q) h)
theorem ltAll_le {m n : Nat} (h : m ≤ n) : ∀ ds : List D, D.ltAll m ds = true → D.ltAll n ds = true
  | [], _ => rfl
  | d :: r, q => by
    unfold D.ltAll at *
    rw [Bool.and_eq_true] at *
    exact ⟨lt_le h d q.1, ltAll_le h r q.2⟩
end
theorem ob_le {m n : Nat} (h : m ≤ n) {o : Ob} (q : o.lt m = true) : o.lt n = true := by
  cases o with
  | lst xs => exact ltAll_le h xs q
  | dct kvs =>
    unfold Ob.lt at *
    rw [List.all_eq_true] at *
    intro p hp
    have := q p hp
    rw [Bool.and_eq_true] at *
    exact ⟨lt_le h _ this.1, lt_le h _ this.2⟩
theorem Clo.push {s : Sto} {o : Ob} (h : Clo s) (q : o.lt (s.length + 1) = true) : Clo (s ++ [o]) := by
  unfold Clo at *
  rw [List.length_append, List.all_append, Bool.and_eq_true]
  refine ⟨?_, by simp [q]⟩
  rw [List.all_eq_true] at *
  exact fun x hx => ob_le (Nat.le_succ _) (h x hx)
theorem Clo.set {s : Sto} {o : Ob} {k : Nat} (h : Clo s) (q : o.lt s.length = true) : Clo (s.set k o) := by
  unfold Clo at *
  rw [List.length_set, List.all_eq_true] at *
  intro x hx
  rcases List.mem_or_eq_of_mem_set hx with z | z
  · exact h x z
  · rw [z]; exact q
/-- what a call leaves, where it made nothing that stays -/
theorem fin_pure {s : Sto} {d : D} (h : Clo s) (q : d.lt s.length = true) : fin s.length d s = .ok d s := by
  unfold fin
  have : (s.take s.length).all (Ob.lt s.length) = true := by rw [List.take_length]; exact h
  rw [if_pos this, if_pos q, List.take_length]
/-- .. garbage behind -/
theorem fin_g {s g : Sto} {d : D} (h : Clo s) (q : d.lt s.length = true) : fin s.length d (s ++ g) = .ok d s := by
  unfold fin
  have e : (s ++ g).take s.length = s := List.take_left
  rw [e, if_pos (show s.all (Ob.lt s.length) = true from h), if_pos q]
theorem fin_set {s : Sto} {n : Nat} {d : D} (hn : s.length = n) (h : Clo s) (q : d.lt n = true) : fin n d s = .ok d s := by rw [← hn] at q ⊢; exact fin_pure h q
theorem fin_new {s g : Sto} {o : Ob} {k : Nat} (h : Clo s) (hk : s.length ≤ k) (ho : (s ++ g)[k]? = some o) (q : o.lt s.length = true) : fin s.length (.obj k) (s ++ g) = .ok (.obj s.length) (s ++ [o]) := by
  unfold fin
  have e : (s ++ g).take s.length = s := List.take_left
  rw [e, if_pos (show s.all (Ob.lt s.length) = true from h), if_neg (by unfold D.lt; simp; exact hk)]
  simp only
  rw [ho]
  simp only
  rw [if_pos q]
end Nv

set_option Elab.async false
set_option linter.all false
set_option maxRecDepth 100000
set_option autoImplicit false
/-! K61: the text as terms -/
namespace Nv.K61
open PySem PySem.Spec PyProof.Rows L2
def top (i : Nat) : Stmt := PySem.Challenge.pw_nestviews_k61_places_of_bags.main.body.getD i (.Pass ⟨0, 0, 0, 0⟩)
def b_p_bags_within : Sm := (.cons (.ifs (.cmp .eq (.ix (.var 0) (.int 0)) (.str "bag")) (.cons (.ret (.bin .add (.lst (.cons (.var 1)
    .nil)) (.call 0 (.cons (.ix (.var 0) (.int 1)) (.cons (.bin .add (.var 1) (.tup (.cons (.gc 0) .nil)))
    .nil))))) .nil) .nil) (.cons (.set (.v 2) (.lst .nil)) (.cons (.ifs (.cmp .eq (.ix (.var 0) (.int 0)) (.str
    "record")) (.cons (.for_ (.c (.v 3) (.c (.v 4) .n)) (.ix (.var 0) (.int 1)) (.cons (.ex (.m1 .extend (.var 2)
    (.call 0 (.cons (.var 4) (.cons (.bin .add (.var 1) (.tup (.cons (.var 3) .nil))) .nil))))) .nil)) .nil) .nil)
    (.cons (.ret (.var 2)) .nil))))
def f_p_bags_within : Fn := ⟨"bags_within", ["kind", "place"], ["kind", "place", "found", "name", "inner"], b_p_bags_within⟩
def b_p_bags_of : Sm := (.cons (.ret (.call 0 (.cons (.var 0) (.cons (.tup .nil) .nil)))) .nil)
def f_p_bags_of : Fn := ⟨"bags_of", ["kind"], ["kind"], b_p_bags_of⟩
def b_nth : Sm := (.cons (.ret (.ife (.cmp .lt (.var 1) (.b1 .len (.var 0))) (.ix (.var 0) (.var 1)) (.int 0))) .nil)
def f_nth : Fn := ⟨"_law_nth", ["_law_script", "_law_k"], ["_law_script", "_law_k"], b_nth⟩
def b_pot : Sm := (.cons (.ret (.lst (.cons (.b2 .max (.var 0) (.int 0)) (.cons (.bin .mod (.bin .add (.bin .mul (.var 0) (.int
    48271)) (.int 977)) (.int 2147483647)) .nil)))) .nil)
def f_pot : Fn := ⟨"_law_pot", ["_law_cell"], ["_law_cell"], b_pot⟩
def b_take : Sm := (.cons (.ifs (.cmp .gt (.ix (.var 0) (.int 0)) (.int 0)) (.cons (.set (.v 2) (.bin .mod (.ix (.var 0) (.int
    0)) (.var 1))) (.cons (.setI (.var 0) (.int 0) (.bin .fdiv (.ix (.var 0) (.int 0)) (.var 1))) (.cons (.ret
    (.var 2)) .nil))) .nil) (.cons (.setI (.var 0) (.int 1) (.bin .mod (.bin .add (.bin .mul (.ix (.var 0) (.int
    1)) (.int 39373)) (.int 7919)) (.int 2147483629))) (.cons (.ret (.bin .mod (.bin .fdiv (.bin .mod (.bin .mul
    (.ix (.var 0) (.int 1)) (.ix (.var 0) (.int 1))) (.int 2147483563)) (.int 11)) (.var 1))) .nil)))
def f_take : Fn := ⟨"_law_take", ["_law_pot_here", "_law_many"], ["_law_pot_here", "_law_many", "_law_digit"], b_take⟩
def b_label : Sm := (.cons (.ret (.ix (.lst (.cons (.str "a") (.cons (.str "ab") (.cons (.str "b") (.cons (.str "c") (.cons (.str
    "key") (.cons (.str "x") .nil))))))) (.call 4 (.cons (.var 0) (.cons (.int 6) .nil))))) .nil)
def f_label : Fn := ⟨"_law_label", ["_law_pot_here"], ["_law_pot_here"], b_label⟩
def b_flat_kind : Sm := (.cons (.set (.v 2) (.call 4 (.cons (.var 0) (.cons (.int 8) .nil)))) (.cons (.ifs (.or (.cmp .lt (.var 2)
    (.int 3)) (.cmp .eq (.var 1) (.int 0))) (.cons (.ret (.ix (.lst (.cons (.tup (.cons (.str "number") .nil))
    (.cons (.tup (.cons (.str "text") .nil)) (.cons (.tup (.cons (.str "truth") .nil)) .nil)))) (.bin .mod (.var
    2) (.int 3)))) .nil) .nil) (.cons (.set (.v 3) (.fs .sortset (.cp (.call 5 (.cons (.var 0) .nil)) (.v 6) (.i1
    .range (.bin .add (.b1 .int (.cmp .gt (.var 2) (.int 5))) (.call 4 (.cons (.var 0) (.cons (.int 3) .nil)))))
    .nil [6]))) (.cons (.set (.v 4) (.b1 .tuple (.cp (.tup (.cons (.var 5) (.cons (.call 6 (.cons (.var 0) (.cons
    (.bin .sub (.var 1) (.int 1)) .nil))) .nil))) (.v 5) (.var 3) .nil [5]))) (.cons (.ifs (.cmp .lt (.var 2)
    (.int 6)) (.cons (.ret (.tup (.cons (.str "record") (.cons (.var 4) .nil)))) .nil) .nil) (.cons (.ret (.tup
    (.cons (.str "choice") (.cons (.var 4) .nil)))) .nil))))))
def f_flat_kind : Fn := ⟨"_law_flat_kind", ["_law_pot_here", "_law_deep"], ["_law_pot_here", "_law_deep", "_law_way", "_law_labels", "_law_rows", "_law_label_here", "_law_k"], b_flat_kind⟩
def b_kind : Sm := (.cons (.set (.v 2) (.call 4 (.cons (.var 0) (.cons (.int 6) .nil)))) (.cons (.ifs (.or (.cmp .lt (.var 2)
    (.int 3)) (.cmp .eq (.var 1) (.int 0))) (.cons (.ret (.call 6 (.cons (.var 0) (.cons (.b2 .min (.var 1) (.int
    2)) .nil)))) .nil) .nil) (.cons (.ifs (.cmp .lt (.var 2) (.int 5)) (.cons (.ret (.tup (.cons (.str "bag")
    (.cons (.call 7 (.cons (.var 0) (.cons (.bin .sub (.var 1) (.int 1)) .nil))) .nil)))) .nil) .nil) (.cons (.set
    (.v 3) (.fs .sortset (.cp (.call 5 (.cons (.var 0) .nil)) (.v 4) (.i1 .range (.bin .add (.int 1) (.call 4
    (.cons (.var 0) (.cons (.int 2) .nil))))) .nil [4]))) (.cons (.ret (.tup (.cons (.str "record") (.cons (.b1
    .tuple (.cp (.tup (.cons (.var 5) (.cons (.call 7 (.cons (.var 0) (.cons (.bin .sub (.var 1) (.int 1)) .nil)))
    .nil))) (.v 5) (.var 3) .nil [5])) .nil)))) .nil)))))
def f_kind : Fn := ⟨"_law_kind", ["_law_pot_here", "_law_deep"], ["_law_pot_here", "_law_deep", "_law_way", "_law_labels", "_law_k", "_law_label_here"], b_kind⟩
def b_marked : Sm := (.cons (.ifs (.cmp .eq (.ix (.var 0) (.int 0)) (.str "bag")) (.cons (.ret (.bin .add (.lst (.cons (.var 1)
    .nil)) (.call 8 (.cons (.ix (.var 0) (.int 1)) (.cons (.bin .add (.var 1) (.tup (.cons (.str "[]") .nil)))
    .nil))))) .nil) .nil) (.cons (.set (.v 2) (.lst .nil)) (.cons (.ifs (.cmp .inn (.ix (.var 0) (.int 0)) (.lst
    (.cons (.str "record") (.cons (.str "choice") .nil)))) (.cons (.for_ (.c (.v 3) (.c (.v 4) .n)) (.ix (.var 0)
    (.int 1)) (.cons (.set (.v 2) (.bin .add (.var 2) (.call 8 (.cons (.var 4) (.cons (.bin .add (.var 1) (.tup
    (.cons (.var 3) .nil))) .nil))))) .nil)) .nil) .nil) (.cons (.ret (.var 2)) .nil))))
def f_marked : Fn := ⟨"_law_marked", ["_law_kind_here", "_law_place"], ["_law_kind_here", "_law_place", "_law_found", "_law_label_here", "_law_inner"], b_marked⟩
def b_p_law : Sm := (.cons (.for_ (.v 1) (.sl (.var 0) .nil (.int 15)) (.cons (.set (.v 2) (.call 3 (.cons (.var 1) .nil))) (.cons
    (.set (.v 3) (.call 7 (.cons (.var 2) (.cons (.call 4 (.cons (.var 2) (.cons (.int 5) .nil))) .nil)))) (.cons
    (.set (.v 4) (.call 8 (.cons (.var 3) (.cons (.tup .nil) .nil)))) (.cons (.set (.v 5) (.call 1 (.cons (.var 3)
    .nil))) (.cons (.ifs (.or (.nt (.isin (.var 5) .list)) (.or (.cmp .ne (.var 5) (.var 4)) (.cmp .ne (.fs
    .lenset (.var 5)) (.b1 .len (.var 5))))) (.cons (.ret (.bl false)) .nil) .nil) (.cons (.ex (.m1 .append (.var
    5) (.tup (.cons (.str "a") .nil)))) (.cons (.ex (.m0 .reverse (.var 5))) (.cons (.ifs (.cmp .ne (.call 1
    (.cons (.var 3) .nil)) (.var 4)) (.cons (.ret (.bl false)) .nil) .nil) .nil))))))))) (.cons (.ret (.bl true))
    .nil))
def f_p_law : Fn := ⟨"law", ["_law_script"], ["_law_script", "_law_cell", "_law_pot_here", "_law_kind_here", "_law_due", "_law_found"], b_p_law⟩
def tab : Tab := ⟨[f_p_bags_within, f_p_bags_of, f_nth, f_pot, f_take, f_label, f_flat_kind, f_kind, f_marked, f_p_law], [("INTO", .str "[]")], ["len", "max", "tuple", "sorted", "set", "range", "int", "min", "isinstance", "list"]⟩
theorem k_p_bags_within : (ckS tab f_p_bags_within.ns f_p_bags_within.body).l (defScope (top 2)) (defBody (top 2)) = true := by decide +kernel
theorem s_p_bags_within : FnScope f_p_bags_within.ns f_p_bags_within.ps (defScope (top 2)) := ⟨rfl, rfl, rfl, by decide +kernel, rfl, by decide +kernel, by decide +kernel⟩
theorem a_p_bags_within (kV doc pm : Value) (an : Option Addr) (cdv ct : Value) (us : List Value) (h : us.length = f_p_bags_within.ps.length) : bindArgs (PySem.W.fnOf f_p_bags_within.name f_p_bags_within.name (defArgs (top 2)) (defBody (top 2)) (defScope (top 2)) .none kV doc pm an cdv ct) ⟨us, []⟩ = pure (f_p_bags_within.ps.zip us) :=
  match us, h with
  | [_, _], _ => rfl
theorem k_p_bags_of : (ckS tab f_p_bags_of.ns f_p_bags_of.body).l (defScope (top 3)) (defBody (top 3)) = true := by decide +kernel
theorem s_p_bags_of : FnScope f_p_bags_of.ns f_p_bags_of.ps (defScope (top 3)) := ⟨rfl, rfl, rfl, by decide +kernel, rfl, by decide +kernel, by decide +kernel⟩
theorem a_p_bags_of (kV doc pm : Value) (an : Option Addr) (cdv ct : Value) (us : List Value) (h : us.length = f_p_bags_of.ps.length) : bindArgs (PySem.W.fnOf f_p_bags_of.name f_p_bags_of.name (defArgs (top 3)) (defBody (top 3)) (defScope (top 3)) .none kV doc pm an cdv ct) ⟨us, []⟩ = pure (f_p_bags_of.ps.zip us) :=
  match us, h with
  | [_], _ => rfl
theorem k_nth : (ckS tab f_nth.ns f_nth.body).l (defScope (top 5)) (defBody (top 5)) = true := by decide +kernel
theorem s_nth : FnScope f_nth.ns f_nth.ps (defScope (top 5)) := ⟨rfl, rfl, rfl, by decide +kernel, rfl, by decide +kernel, by decide +kernel⟩
theorem a_nth (kV doc pm : Value) (an : Option Addr) (cdv ct : Value) (us : List Value) (h : us.length = f_nth.ps.length) : bindArgs (PySem.W.fnOf f_nth.name f_nth.name (defArgs (top 5)) (defBody (top 5)) (defScope (top 5)) .none kV doc pm an cdv ct) ⟨us, []⟩ = pure (f_nth.ps.zip us) :=
  match us, h with
  | [_, _], _ => rfl
theorem k_pot : (ckS tab f_pot.ns f_pot.body).l (defScope (top 6)) (defBody (top 6)) = true := by decide +kernel
theorem s_pot : FnScope f_pot.ns f_pot.ps (defScope (top 6)) := ⟨rfl, rfl, rfl, by decide +kernel, rfl, by decide +kernel, by decide +kernel⟩
theorem a_pot (kV doc pm : Value) (an : Option Addr) (cdv ct : Value) (us : List Value) (h : us.length = f_pot.ps.length) : bindArgs (PySem.W.fnOf f_pot.name f_pot.name (defArgs (top 6)) (defBody (top 6)) (defScope (top 6)) .none kV doc pm an cdv ct) ⟨us, []⟩ = pure (f_pot.ps.zip us) :=
  match us, h with
  | [_], _ => rfl
theorem k_take : (ckS tab f_take.ns f_take.body).l (defScope (top 7)) (defBody (top 7)) = true := by decide +kernel
theorem s_take : FnScope f_take.ns f_take.ps (defScope (top 7)) := ⟨rfl, rfl, rfl, by decide +kernel, rfl, by decide +kernel, by decide +kernel⟩
theorem a_take (kV doc pm : Value) (an : Option Addr) (cdv ct : Value) (us : List Value) (h : us.length = f_take.ps.length) : bindArgs (PySem.W.fnOf f_take.name f_take.name (defArgs (top 7)) (defBody (top 7)) (defScope (top 7)) .none kV doc pm an cdv ct) ⟨us, []⟩ = pure (f_take.ps.zip us) :=
  match us, h with
  | [_, _], _ => rfl
theorem k_label : (ckS tab f_label.ns f_label.body).l (defScope (top 8)) (defBody (top 8)) = true := by decide +kernel
theorem s_label : FnScope f_label.ns f_label.ps (defScope (top 8)) := ⟨rfl, rfl, rfl, by decide +kernel, rfl, by decide +kernel, by decide +kernel⟩
theorem a_label (kV doc pm : Value) (an : Option Addr) (cdv ct : Value) (us : List Value) (h : us.length = f_label.ps.length) : bindArgs (PySem.W.fnOf f_label.name f_label.name (defArgs (top 8)) (defBody (top 8)) (defScope (top 8)) .none kV doc pm an cdv ct) ⟨us, []⟩ = pure (f_label.ps.zip us) :=
  match us, h with
  | [_], _ => rfl
theorem k_flat_kind : (ckS tab f_flat_kind.ns f_flat_kind.body).l (defScope (top 9)) (defBody (top 9)) = true := by decide +kernel
theorem s_flat_kind : FnScope f_flat_kind.ns f_flat_kind.ps (defScope (top 9)) := ⟨rfl, rfl, rfl, by decide +kernel, rfl, by decide +kernel, by decide +kernel⟩
theorem a_flat_kind (kV doc pm : Value) (an : Option Addr) (cdv ct : Value) (us : List Value) (h : us.length = f_flat_kind.ps.length) : bindArgs (PySem.W.fnOf f_flat_kind.name f_flat_kind.name (defArgs (top 9)) (defBody (top 9)) (defScope (top 9)) .none kV doc pm an cdv ct) ⟨us, []⟩ = pure (f_flat_kind.ps.zip us) :=
  match us, h with
  | [_, _], _ => rfl
theorem k_kind : (ckS tab f_kind.ns f_kind.body).l (defScope (top 10)) (defBody (top 10)) = true := by decide +kernel
theorem s_kind : FnScope f_kind.ns f_kind.ps (defScope (top 10)) := ⟨rfl, rfl, rfl, by decide +kernel, rfl, by decide +kernel, by decide +kernel⟩
theorem a_kind (kV doc pm : Value) (an : Option Addr) (cdv ct : Value) (us : List Value) (h : us.length = f_kind.ps.length) : bindArgs (PySem.W.fnOf f_kind.name f_kind.name (defArgs (top 10)) (defBody (top 10)) (defScope (top 10)) .none kV doc pm an cdv ct) ⟨us, []⟩ = pure (f_kind.ps.zip us) :=
  match us, h with
  | [_, _], _ => rfl
theorem k_marked : (ckS tab f_marked.ns f_marked.body).l (defScope (top 11)) (defBody (top 11)) = true := by decide +kernel
theorem s_marked : FnScope f_marked.ns f_marked.ps (defScope (top 11)) := ⟨rfl, rfl, rfl, by decide +kernel, rfl, by decide +kernel, by decide +kernel⟩
theorem a_marked (kV doc pm : Value) (an : Option Addr) (cdv ct : Value) (us : List Value) (h : us.length = f_marked.ps.length) : bindArgs (PySem.W.fnOf f_marked.name f_marked.name (defArgs (top 11)) (defBody (top 11)) (defScope (top 11)) .none kV doc pm an cdv ct) ⟨us, []⟩ = pure (f_marked.ps.zip us) :=
  match us, h with
  | [_, _], _ => rfl
theorem k_p_law : (ckS tab f_p_law.ns f_p_law.body).l (defScope (top 12)) (defBody (top 12)) = true := by decide +kernel
theorem s_p_law : FnScope f_p_law.ns f_p_law.ps (defScope (top 12)) := ⟨rfl, rfl, rfl, by decide +kernel, rfl, by decide +kernel, by decide +kernel⟩
theorem a_p_law (kV doc pm : Value) (an : Option Addr) (cdv ct : Value) (us : List Value) (h : us.length = f_p_law.ps.length) : bindArgs (PySem.W.fnOf f_p_law.name f_p_law.name (defArgs (top 12)) (defBody (top 12)) (defScope (top 12)) .none kV doc pm an cdv ct) ⟨us, []⟩ = pure (f_p_law.ps.zip us) :=
  match us, h with
  | [_], _ => rfl
theorem all_mk {K : PySem.W.Frag} {h : Heap} {mg : Str → Option Value} (X : K.In h) (G : h.Ns mainGlobals mg)
    {od0 an0 : Option Addr} {sl0 : Array (Option Value)} {f0 : Addr} {oc0 kV0 dc0 pm0 cd0 ct0 : Value}
    (a0 : PySem.W.nsIn K mainGlobals "bags_within" = some (some (.ref f0))) (l0 : K.lookup f0 = some ⟨oc0, od0, .func (PySem.W.fnOf "bags_within" "bags_within" (defArgs (top 2)) (defBody (top 2)) (defScope (top 2)) .none kV0 dc0 pm0 an0 cd0 ct0), sl0⟩) (c0 : PySem.W.codeIn K cd0 "bags_within" = true) (k0 : PySem.W.keepIn K (.ref f0) = true)
    {od1 an1 : Option Addr} {sl1 : Array (Option Value)} {f1 : Addr} {oc1 kV1 dc1 pm1 cd1 ct1 : Value}
    (a1 : PySem.W.nsIn K mainGlobals "bags_of" = some (some (.ref f1))) (l1 : K.lookup f1 = some ⟨oc1, od1, .func (PySem.W.fnOf "bags_of" "bags_of" (defArgs (top 3)) (defBody (top 3)) (defScope (top 3)) .none kV1 dc1 pm1 an1 cd1 ct1), sl1⟩) (c1 : PySem.W.codeIn K cd1 "bags_of" = true) (k1 : PySem.W.keepIn K (.ref f1) = true)
    {od2 an2 : Option Addr} {sl2 : Array (Option Value)} {f2 : Addr} {oc2 kV2 dc2 pm2 cd2 ct2 : Value}
    (a2 : PySem.W.nsIn K mainGlobals "_law_nth" = some (some (.ref f2))) (l2 : K.lookup f2 = some ⟨oc2, od2, .func (PySem.W.fnOf "_law_nth" "_law_nth" (defArgs (top 5)) (defBody (top 5)) (defScope (top 5)) .none kV2 dc2 pm2 an2 cd2 ct2), sl2⟩) (c2 : PySem.W.codeIn K cd2 "_law_nth" = true) (k2 : PySem.W.keepIn K (.ref f2) = true)
    {od3 an3 : Option Addr} {sl3 : Array (Option Value)} {f3 : Addr} {oc3 kV3 dc3 pm3 cd3 ct3 : Value}
    (a3 : PySem.W.nsIn K mainGlobals "_law_pot" = some (some (.ref f3))) (l3 : K.lookup f3 = some ⟨oc3, od3, .func (PySem.W.fnOf "_law_pot" "_law_pot" (defArgs (top 6)) (defBody (top 6)) (defScope (top 6)) .none kV3 dc3 pm3 an3 cd3 ct3), sl3⟩) (c3 : PySem.W.codeIn K cd3 "_law_pot" = true) (k3 : PySem.W.keepIn K (.ref f3) = true)
    {od4 an4 : Option Addr} {sl4 : Array (Option Value)} {f4 : Addr} {oc4 kV4 dc4 pm4 cd4 ct4 : Value}
    (a4 : PySem.W.nsIn K mainGlobals "_law_take" = some (some (.ref f4))) (l4 : K.lookup f4 = some ⟨oc4, od4, .func (PySem.W.fnOf "_law_take" "_law_take" (defArgs (top 7)) (defBody (top 7)) (defScope (top 7)) .none kV4 dc4 pm4 an4 cd4 ct4), sl4⟩) (c4 : PySem.W.codeIn K cd4 "_law_take" = true) (k4 : PySem.W.keepIn K (.ref f4) = true)
    {od5 an5 : Option Addr} {sl5 : Array (Option Value)} {f5 : Addr} {oc5 kV5 dc5 pm5 cd5 ct5 : Value}
    (a5 : PySem.W.nsIn K mainGlobals "_law_label" = some (some (.ref f5))) (l5 : K.lookup f5 = some ⟨oc5, od5, .func (PySem.W.fnOf "_law_label" "_law_label" (defArgs (top 8)) (defBody (top 8)) (defScope (top 8)) .none kV5 dc5 pm5 an5 cd5 ct5), sl5⟩) (c5 : PySem.W.codeIn K cd5 "_law_label" = true) (k5 : PySem.W.keepIn K (.ref f5) = true)
    {od6 an6 : Option Addr} {sl6 : Array (Option Value)} {f6 : Addr} {oc6 kV6 dc6 pm6 cd6 ct6 : Value}
    (a6 : PySem.W.nsIn K mainGlobals "_law_flat_kind" = some (some (.ref f6))) (l6 : K.lookup f6 = some ⟨oc6, od6, .func (PySem.W.fnOf "_law_flat_kind" "_law_flat_kind" (defArgs (top 9)) (defBody (top 9)) (defScope (top 9)) .none kV6 dc6 pm6 an6 cd6 ct6), sl6⟩) (c6 : PySem.W.codeIn K cd6 "_law_flat_kind" = true) (k6 : PySem.W.keepIn K (.ref f6) = true)
    {od7 an7 : Option Addr} {sl7 : Array (Option Value)} {f7 : Addr} {oc7 kV7 dc7 pm7 cd7 ct7 : Value}
    (a7 : PySem.W.nsIn K mainGlobals "_law_kind" = some (some (.ref f7))) (l7 : K.lookup f7 = some ⟨oc7, od7, .func (PySem.W.fnOf "_law_kind" "_law_kind" (defArgs (top 10)) (defBody (top 10)) (defScope (top 10)) .none kV7 dc7 pm7 an7 cd7 ct7), sl7⟩) (c7 : PySem.W.codeIn K cd7 "_law_kind" = true) (k7 : PySem.W.keepIn K (.ref f7) = true)
    {od8 an8 : Option Addr} {sl8 : Array (Option Value)} {f8 : Addr} {oc8 kV8 dc8 pm8 cd8 ct8 : Value}
    (a8 : PySem.W.nsIn K mainGlobals "_law_marked" = some (some (.ref f8))) (l8 : K.lookup f8 = some ⟨oc8, od8, .func (PySem.W.fnOf "_law_marked" "_law_marked" (defArgs (top 11)) (defBody (top 11)) (defScope (top 11)) .none kV8 dc8 pm8 an8 cd8 ct8), sl8⟩) (c8 : PySem.W.codeIn K cd8 "_law_marked" = true) (k8 : PySem.W.keepIn K (.ref f8) = true)
    {od9 an9 : Option Addr} {sl9 : Array (Option Value)} {f9 : Addr} {oc9 kV9 dc9 pm9 cd9 ct9 : Value}
    (a9 : PySem.W.nsIn K mainGlobals "law" = some (some (.ref f9))) (l9 : K.lookup f9 = some ⟨oc9, od9, .func (PySem.W.fnOf "law" "law" (defArgs (top 12)) (defBody (top 12)) (defScope (top 12)) .none kV9 dc9 pm9 an9 cd9 ct9), sl9⟩) (c9 : PySem.W.codeIn K cd9 "law" = true) (k9 : PySem.W.keepIn K (.ref f9) = true)
    (z0 : PySem.W.nsIn K mainGlobals "len" = some none)
    (z1 : PySem.W.nsIn K mainGlobals "max" = some none)
    (z2 : PySem.W.nsIn K mainGlobals "tuple" = some none)
    (z3 : PySem.W.nsIn K mainGlobals "sorted" = some none)
    (z4 : PySem.W.nsIn K mainGlobals "set" = some none)
    (z5 : PySem.W.nsIn K mainGlobals "range" = some none)
    (z6 : PySem.W.nsIn K mainGlobals "int" = some none)
    (z7 : PySem.W.nsIn K mainGlobals "min" = some none)
    (z8 : PySem.W.nsIn K mainGlobals "isinstance" = some none)
    (z9 : PySem.W.nsIn K mainGlobals "list" = some none)
    {t0 : Tok} (g0 : PySem.W.nsIn K mainGlobals "INTO" = some (some (.str "[]" t0))) : Facts K mg tab where
  fns := List.forall_mem_cons.mpr ⟨fn_top X G a0 l0 c0 k0 s_p_bags_within a_p_bags_within k_p_bags_within, List.forall_mem_cons.mpr ⟨fn_top X G a1 l1 c1 k1 s_p_bags_of a_p_bags_of k_p_bags_of, List.forall_mem_cons.mpr ⟨fn_top X G a2 l2 c2 k2 s_nth a_nth k_nth, List.forall_mem_cons.mpr ⟨fn_top X G a3 l3 c3 k3 s_pot a_pot k_pot, List.forall_mem_cons.mpr ⟨fn_top X G a4 l4 c4 k4 s_take a_take k_take, List.forall_mem_cons.mpr ⟨fn_top X G a5 l5 c5 k5 s_label a_label k_label, List.forall_mem_cons.mpr ⟨fn_top X G a6 l6 c6 k6 s_flat_kind a_flat_kind k_flat_kind, List.forall_mem_cons.mpr ⟨fn_top X G a7 l7 c7 k7 s_kind a_kind k_kind, List.forall_mem_cons.mpr ⟨fn_top X G a8 l8 c8 k8 s_marked a_marked k_marked, List.forall_mem_cons.mpr ⟨fn_top X G a9 l9 c9 k9 s_p_law a_p_law k_p_law, (fun _ hz => nomatch hz)⟩⟩⟩⟩⟩⟩⟩⟩⟩⟩
  blt := List.forall_mem_cons.mpr ⟨PySem.W.mg_none_of X G z0, List.forall_mem_cons.mpr ⟨PySem.W.mg_none_of X G z1, List.forall_mem_cons.mpr ⟨PySem.W.mg_none_of X G z2, List.forall_mem_cons.mpr ⟨PySem.W.mg_none_of X G z3, List.forall_mem_cons.mpr ⟨PySem.W.mg_none_of X G z4, List.forall_mem_cons.mpr ⟨PySem.W.mg_none_of X G z5, List.forall_mem_cons.mpr ⟨PySem.W.mg_none_of X G z6, List.forall_mem_cons.mpr ⟨PySem.W.mg_none_of X G z7, List.forall_mem_cons.mpr ⟨PySem.W.mg_none_of X G z8, List.forall_mem_cons.mpr ⟨PySem.W.mg_none_of X G z9, (fun _ hz => nomatch hz)⟩⟩⟩⟩⟩⟩⟩⟩⟩⟩
  con := List.forall_mem_cons.mpr ⟨con_str X G g0, (fun _ hz => nomatch hz)⟩
end Nv.K61

set_option maxRecDepth 100000
set_option autoImplicit false
set_option linter.all false
set_option maxHeartbeats 1000000
namespace Nv
open PySem PySem.Spec PyProof.Rows L2
theorem callK_of {β : Type} {cf : Nat → List D → Sto → Res D} {f : Nat} {ds : List D} {s s' : Sto} {d : D} (h : cf f ds s = .ok d s') (k : D → Sto → Res β) : callK cf f ds s k = k d s' := by unfold callK; rw [h]; rfl
/-- only the pot at p is other -/
def pot (a b : Int) : Ob := .lst [.int a, .int b]
def Pc (p : Nat) (s s' : Sto) : Prop := ∃ a b, s' = s.set p (pot a b)
theorem Pc.trans {p : Nat} {s s1 s2 : Sto} (h : Pc p s s1) (g : Pc p s1 s2) : Pc p s s2 := by
  obtain ⟨a, b, rfl⟩ := h
  obtain ⟨c, d, rfl⟩ := g
  exact ⟨c, d, by rw [List.set_set]⟩
structure PotAt (p : Nat) (s : Sto) : Prop where
  clo : Clo s
  at_ : ∃ a b, s[p]? = some (pot a b)
theorem PotAt.lt {p : Nat} {s : Sto} (h : PotAt p s) : p < s.length := by
  obtain ⟨a, b, e⟩ := h.at_
  exact (List.getElem?_eq_some_iff.mp e).1
theorem PotAt.refl {p : Nat} {s : Sto} (h : PotAt p s) : Pc p s s := by
  obtain ⟨a, b, e⟩ := h.at_
  obtain ⟨hl, e2⟩ := List.getElem?_eq_some_iff.mp e
  exact ⟨a, b, by rw [← e2, List.set_getElem_self]⟩
theorem Pc.at_ {p : Nat} {s s' : Sto} (h : Pc p s s') (g : PotAt p s) : PotAt p s' := by
  have hl := g.lt
  obtain ⟨a, b, rfl⟩ := h
  exact ⟨g.clo.set rfl, a, b, List.getElem?_set_self hl⟩
theorem Pc.len {p : Nat} {s s' : Sto} (h : Pc p s s') : s'.length = s.length := by
  obtain ⟨a, b, rfl⟩ := h
  exact List.length_set
theorem at_mem {α : Type} {xs : List α} {i : Int} (h1 : 0 ≤ i) (h2 : i < xs.length) : ∃ x ∈ xs, atI xs i = some x := by
  obtain ⟨k, rfl⟩ := Int.eq_ofNat_of_zero_le h1
  have hk : k < xs.length := by omega
  exact ⟨xs[k], List.getElem_mem hk, atI_nat (List.getElem?_eq_getElem hk)⟩
theorem atI_map {α β : Type} {f : α → β} {xs : List α} {i : Int} : atI (xs.map f) i = (atI xs i).map f := by
  unfold atI
  rw [List.length_map]
  cases ixN xs.length i with
  | none => rfl
  | some j => show (xs.map f)[j]? = (xs[j]?).map f; rw [List.getElem?_map]
/-- what stands in one list, told of each of another -/
inductive All2 {α β : Type} (R : α → β → Prop) : List α → List β → Prop
  | nil : All2 R [] []
  | cons {a : α} {b : β} {as : List α} {bs : List β} : R a b → All2 R as bs → All2 R (a :: as) (b :: bs)
theorem All2.len {α β : Type} {R : α → β → Prop} {as : List α} {bs : List β} (h : All2 R as bs) : bs.length = as.length := by
  induction h with
  | nil => rfl
  | cons _ _ ih => rw [List.length_cons, List.length_cons, ih]
/-- a comprehension over values, its pot going on -/
theorem cp_walk {β : Type} {cf : Nat → List D → Sto → Res D} {g : Nat → Option D} {elt : Ex} {i p : Nat} {l : Loc} {R : D → D → Prop} (hi : i < l.length) {src : Option (Nat × List D)} :
    ∀ (ds acc : List D) (s : Sto), PotAt p s → acc.length + ds.length ≤ 1000 → (∀ s1, Pc p s s1 → srcOk src s1) →
      (∀ x ∈ ds, ∀ s1, PotAt p s1 → ∃ y s2, Pc p s1 s2 ∧ R x y ∧ ∀ k : D → Sto → Res β, evv cf g elt (l.set i (some x)) s1 k = k y s2) →
      ∃ ys s', Pc p s s' ∧ All2 R ds ys ∧ ∀ k : List D → Sto → Res β, cpK (.v i) src (den cf g .nil).b (den cf g elt).v l ds acc s k = k (acc ++ ys) s'
  | [], acc, s, hp, _, hs, _ => ⟨[], s, hp.refl, .nil, fun k => by rw [cp_nil (hs s hp.refl), List.append_nil]⟩
  | x :: ds, acc, s, hp, hl, hs, h => by
    obtain ⟨y, s1, p1, r1, e1⟩ := h x (.head _) s hp
    rw [List.length_cons] at hl
    obtain ⟨ys, s2, p2, r2, e2⟩ := cp_walk (R := R) hi ds (acc ++ [y]) s1 (p1.at_ hp) (by rw [List.length_append, List.length_singleton]; omega) (fun s3 h3 => hs s3 (p1.trans h3)) fun z hz => h z (.tail _ hz)
    refine ⟨y :: ys, s2, p1.trans p2, .cons r1 r2, fun k => ?_⟩
    rw [cp_cons (hs s hp.refl) (by rw [sizeLine_eq]; omega)]
    have e : bindT (.v i) x l = some (l.set i (some x)) := by rw [bindT, if_pos hi]
    rw [e]
    show evb cf g .nil (l.set i (some x)) s _ = _
    rw [evb_nil, if_pos rfl, e1, e2, List.append_assoc]
    rfl
/-- the end of a call that has changed the pot alone, and made things that go -/
theorem fin_pc {p : Nat} {s s1 s2 g : Sto} (hp : PotAt p s) (h1 : Pc p s s1) (h2 : Pc p (s1 ++ g) s2) : ∃ s3, Pc p s s3 ∧ ∀ d : D, d.lt s.length = true → fin s.length d s2 = .ok d s3 := by
  obtain ⟨a, b, rfl⟩ := h2
  have hl : p < s1.length := by rw [h1.len]; exact hp.lt
  have h3 : Pc p s (s1.set p (pot a b)) := h1.trans ⟨a, b, rfl⟩
  refine ⟨_, h3, fun d hd => ?_⟩
  rw [List.set_append_left _ _ hl, ← h3.len]
  exact fin_g (h3.at_ hp).clo (by rw [h3.len]; exact hd)
theorem PotAt.push {p : Nat} {s : Sto} {o : Ob} (h : PotAt p s) (q : o.lt (s.length + 1) = true) : PotAt p (s ++ [o]) := by
  have hl := h.lt
  obtain ⟨a, b, e⟩ := h.at_
  exact ⟨h.clo.push q, a, b, by rw [List.getElem?_append_left hl]; exact e⟩
/-- another list stays -/
theorem src_stay {p : Nat} {s s1 : Sto} {xs : List D} (hp : p < s.length) (h : Pc p (s ++ [.lst xs]) s1) : srcOk (some (s.length, xs)) s1 := by
  obtain ⟨a, b, rfl⟩ := h
  show (((s ++ [.lst xs] : Sto).set p (pot a b))[s.length]?) = some (.lst xs)
  rw [List.getElem?_set_ne (by omega), List.getElem?_append_right (Nat.le_refl _), Nat.sub_self]
  rfl
@[simp] theorem int_bl {s : Sto} {t : Bool} : b1R .int s (.d (.bl t)) = some (.d (.int (if t = true then 1 else 0))) := rfl
@[simp] theorem tuple_l {s : Sto} {xs : List D} : b1R .tuple s (.l xs) = some (.d (.tup xs)) := rfl
@[simp] theorem range_ok {s : Sto} {j : Int} (h : small62 j) : i1R .range s (.d (.int j)) = some ⟨upTo 0 j.toNat, none⟩ := by unfold i1R; simp only; rw [if_pos h]
theorem small_of {j : Int} (h1 : -1000000 ≤ j) (h2 : j < 1000000) : small62 j := ⟨by omega, by omega⟩
theorem up_len : ∀ (n : Nat) (lo : Int), (upTo lo n).length = n
  | 0, _ => rfl
  | n + 1, lo => by rw [upTo, List.length_cons, up_len n]
theorem lt_strs {n : Nat} : ∀ xs : List Str, D.ltAll n (xs.map D.str) = true
  | [] => rfl
  | x :: r => by rw [List.map_cons]; unfold D.ltAll; rw [lt_strs r]; rfl
end Nv
namespace Nv.K61
open PySem PySem.Spec PyProof.Rows L2
def seed (b : Int) : Int := (b * 39373 + 7919).fmod 2147483629
theorem seed_bd (b : Int) : 0 ≤ seed b ∧ seed b < 2147483629 := ⟨Int.fmod_nonneg_of_pos _ (by decide), Int.fmod_lt_of_pos _ (by decide)⟩
theorem t_take {n p : Nat} {s : Sto} {m : Int} (hp : PotAt p s) (hm : 0 < m) (hm2 : m < 1000) : ∃ d s', 0 ≤ d ∧ d < m ∧ Pc p s s' ∧ callN tab (n + 1) 4 [.obj p, .int m] s = .ok (.int d) s' := by
  rw [call_at (T := tab) (i := 4) (F := f_take) rfl rfl]
  obtain ⟨a, b, hp'⟩ := hp.at_
  have hp' : s[p]? = some (Ob.lst [.int a, .int b]) := hp'
  have hc := hp.clo
  have hl := hp.lt
  have m0 : m ≠ 0 := by omega
  have hs : ∀ o, (s.set p o)[p]? = some o := fun o => List.getElem?_set_self hl
  have d1 : CDivN a m := div_small hm (by omega)
  have fin1 : ∀ (x y z : Int), fin s.length (.int x) (s.set p (.lst [.int y, .int z])) = .ok (.int x) (s.set p (pot y z)) := fun x y z => fin_set (by rw [List.length_set]) (hc.set rfl) rfl
  by_cases h0 : 0 < a
  · refine ⟨a.fmod m, _, Int.fmod_nonneg_of_pos _ hm, Int.fmod_lt_of_pos _ hm, ⟨a.fdiv m, b, rfl⟩, ?_⟩
    simp [f_take, b_take, hp', m0, d1, h0, fin1]
  · obtain ⟨s1, s2⟩ := seed_bd b
    have c1 : CMul b 39373 := mul_const (by decide) (by decide)
    have c2 : CMul ((b * 39373 + 7919).fmod 2147483629) ((b * 39373 + 7919).fmod 2147483629) := mul_small s1 (by unfold seed at s2; omega)
    have c3 : CDivN (((b * 39373 + 7919).fmod 2147483629 * (b * 39373 + 7919).fmod 2147483629).fmod 2147483563) 11 := div_small (by decide) (by decide)
    refine ⟨((((b * 39373 + 7919).fmod 2147483629 * (b * 39373 + 7919).fmod 2147483629).fmod 2147483563).fdiv 11).fmod m, _, Int.fmod_nonneg_of_pos _ hm, Int.fmod_lt_of_pos _ hm, ⟨a, seed b, rfl⟩, ?_⟩
    simp [f_take, b_take, hp', m0, d1, h0, fin1, c1, c2, c3, hs]
    rfl
def labels : List Str := ["a", "ab", "b", "c", "key", "x"]
theorem t_label {n p : Nat} {s : Sto} (hp : PotAt p s) : ∃ x s', x ∈ labels ∧ Pc p s s' ∧ callN tab (n + 2) 5 [.obj p] s = .ok (.str x) s' := by
  obtain ⟨d, s', h1, h2, h3, h4⟩ := t_take (n := n) (m := 6) hp (by decide) (by decide)
  obtain ⟨x, hx, e⟩ := at_mem (xs := labels) h1 h2
  refine ⟨x, s', hx, h3, ?_⟩
  rw [call_at (T := tab) (i := 5) (F := f_label) rfl rfl]
  have e2 : atI [D.str "a", .str "ab", .str "b", .str "c", .str "key", .str "x"] d = some (.str x) := by
    show atI (labels.map D.str) d = _
    rw [atI_map, e]; rfl
  have hf : fin s.length (.str x) s' = .ok (.str x) s' := fin_set h3.len (h3.at_ hp).clo rfl
  simp [f_label, b_label, callK_of h4, e2, hf]
theorem t_takeM {m p : Nat} {s : Sto} {k : Int} (hm : 1 ≤ m) (hp : PotAt p s) (h1 : 0 < k) (h2 : k < 1000) : ∃ d s', 0 ≤ d ∧ d < k ∧ Pc p s s' ∧ callN tab m 4 [.obj p, .int k] s = .ok (.int d) s' := by
  obtain ⟨n, rfl⟩ : ∃ n, m = n + 1 := ⟨m - 1, by omega⟩
  exact t_take hp h1 h2
theorem t_labelM {m p : Nat} {s : Sto} (hm : 2 ≤ m) (hp : PotAt p s) : ∃ x s', x ∈ labels ∧ Pc p s s' ∧ callN tab m 5 [.obj p] s = .ok (.str x) s' := by
  obtain ⟨n, rfl⟩ : ∃ n, m = n + 2 := ⟨m - 2, by omega⟩
  exact t_label hp
/-! kinds -/
mutual
inductive Kd where
  | leaf (x : Str) | bag (k : Kd) | rcd (rs : Ks) | cho (rs : Ks)
inductive Ks where
  | nil | cons (n : Str) (k : Kd) (r : Ks)
end
mutual
def kD : Kd → D
  | .leaf x => .tup [.str x]
  | .bag k => .tup [.str "bag", kD k]
  | .rcd rs => .tup [.str "record", .tup (ksD rs)]
  | .cho rs => .tup [.str "choice", .tup (ksD rs)]
def ksD : Ks → List D
  | .nil => []
  | .cons n k r => .tup [.str n, kD k] :: ksD r
end
def names : Ks → List Str
  | .nil => []
  | .cons n _ r => n :: names r
mutual
def flat : Kd → Prop
  | .leaf _ => True
  | .bag _ => False
  | .rcd rs => flats rs
  | .cho rs => flats rs
def flats : Ks → Prop
  | .nil => True
  | .cons _ k r => flat k ∧ flats r
end
mutual
def good : Kd → Prop
  | .leaf x => x ∈ (["number", "text", "truth"] : List Str)
  | .bag k => good k
  | .rcd rs => goods rs ∧ (names rs).Nodup
  | .cho rs => goods rs ∧ (names rs).Nodup ∧ flats rs
def goods : Ks → Prop
  | .nil => True
  | .cons n k r => n ∈ labels ∧ good k ∧ goods r
end
mutual
def dep : Kd → Nat
  | .leaf _ => 0
  | .bag k => dep k + 1
  | .rcd rs => deps rs + 1
  | .cho rs => deps rs + 1
def deps : Ks → Nat
  | .nil => 0
  | .cons _ k r => max (dep k) (deps r)
end
mutual
def cnt : Kd → Nat
  | .leaf _ => 0
  | .bag k => cnt k + 1
  | .rcd rs => cnts rs
  | .cho rs => cnts rs
def cnts : Ks → Nat
  | .nil => 0
  | .cons _ k r => cnt k + cnts r
end
/-- labels drawn, sorted, unlike -/
def srt (xs : List Str) : List Str := (uniq xs).mergeSort leS
theorem srt_nd (xs : List Str) : (srt xs).Nodup := (List.mergeSort_perm _ _).nodup_iff.mpr (uniq_nodup xs)
theorem srt_mem {xs : List Str} {x : Str} : x ∈ srt xs ↔ x ∈ xs := (List.mergeSort_perm _ _).mem_iff.trans mem_uniq
theorem srt_len (xs : List Str) : (srt xs).length ≤ xs.length := by unfold srt; rw [(List.mergeSort_perm _ _).length_eq]; exact uniq_len xs
theorem strs_map : ∀ xs : List Str, strsOf (xs.map D.str) = some xs
  | [] => rfl
  | x :: r => by rw [List.map_cons]; unfold strsOf; rw [strs_map r]; rfl
theorem fs_sort {s : Sto} {xs : List Str} (h : xs.length < 64) : fsR .sortset s (.l (xs.map D.str)) = some (.l ((srt xs).map D.str)) := by
  unfold fsR
  rw [asL_l]
  show (if (xs.map D.str).length < 64 then _ else none) = _
  rw [List.length_map, if_pos h, strs_map]
  rfl
/-- labels drawn -/
theorem labs : ∀ {ds ys : List D}, All2 (fun _ y => ∃ x ∈ labels, y = D.str x) ds ys → ∃ xs : List Str, ys = xs.map D.str ∧ ∀ x ∈ xs, x ∈ labels
  | _, _, .nil => ⟨[], rfl, fun x hx => by cases hx⟩
  | _, _, .cons ⟨x, hx, e⟩ t => by
    obtain ⟨xs, h1, h2⟩ := labs t
    refine ⟨x :: xs, by rw [h1, e]; rfl, fun z hz => ?_⟩
    rcases List.mem_cons.mp hz with q | q
    · rw [q]; exact hx
    · exact h2 z q
def KsAll (P : Kd → Prop) : Ks → Prop
  | .nil => True
  | .cons _ k r => P k ∧ KsAll P r
/-- rows made of labels -/
theorem rows {P : Kd → Prop} : ∀ {ns : List Str} {ys : List D}, All2 (fun x y => ∃ n k, x = D.str n ∧ y = D.tup [.str n, kD k] ∧ P k) (ns.map D.str) ys → ∃ rs, ys = ksD rs ∧ names rs = ns ∧ KsAll P rs
  | [], _, h => by
    cases h
    exact ⟨.nil, rfl, rfl, trivial⟩
  | n :: ns, _, h => by
    rw [List.map_cons] at h
    cases h with
    | cons h1 t =>
      obtain ⟨n', k, e1, rfl, hk⟩ := h1
      cases e1
      obtain ⟨rs, rfl, e2, h2⟩ := rows t
      exact ⟨.cons n k rs, rfl, by rw [names, e2], hk, h2⟩
mutual
theorem kD_lt {n : Nat} : ∀ k : Kd, (kD k).lt n = true
  | .leaf x => rfl
  | .bag k => by
    have := kD_lt (n := n) k
    simp [kD, D.lt, D.ltAll, this]
  | .rcd rs => by
    have := ksD_lt (n := n) rs
    simp [kD, D.lt, D.ltAll, this]
  | .cho rs => by
    have := ksD_lt (n := n) rs
    simp [kD, D.lt, D.ltAll, this]
theorem ksD_lt {n : Nat} : ∀ rs : Ks, D.ltAll n (ksD rs) = true
  | .nil => rfl
  | .cons x k r => by
    have h1 := kD_lt (n := n) k
    have h2 := ksD_lt (n := n) r
    simp [ksD, D.lt, D.ltAll, h1, h2]
end
theorem rows_good : ∀ {rs : Ks} {d : Nat}, KsAll (fun k => good k ∧ flat k ∧ dep k ≤ d) rs → (∀ n ∈ names rs, n ∈ labels) → goods rs ∧ flats rs ∧ deps rs ≤ d
  | .nil, d, _, _ => ⟨trivial, trivial, Nat.zero_le _⟩
  | .cons n k r, d, h, hn => by
    obtain ⟨⟨h1, h2, h3⟩, h4⟩ := h
    obtain ⟨g1, g2, g3⟩ := rows_good h4 fun x hx => hn x (by unfold names; exact .tail _ hx)
    refine ⟨⟨hn n (by unfold names; exact .head _), h1, g1⟩, ⟨h2, g2⟩, ?_⟩
    unfold deps
    exact Nat.max_le.mpr ⟨h3, g3⟩
theorem leaf_at {w : Int} (h : 0 ≤ w) : ∃ x ∈ (["number", "text", "truth"] : List Str), atI [D.tup [D.str "number"], D.tup [D.str "text"], D.tup [D.str "truth"]] (w.fmod 3) = some (kD (.leaf x)) := by
  obtain ⟨x, hx, e⟩ := at_mem (xs := (["number", "text", "truth"] : List Str)) (i := w.fmod 3) (Int.fmod_nonneg_of_pos _ (by decide)) (Int.fmod_lt_of_pos _ (by decide))
  refine ⟨x, hx, ?_⟩
  have : atI ((["number", "text", "truth"] : List Str).map fun x => kD (.leaf x)) (w.fmod 3) = some (kD (.leaf x)) := by rw [atI_map, e]; rfl
  exact this
theorem t_flat : ∀ (d m p : Nat) (s : Sto), d + 3 ≤ m → d ≤ 2 → PotAt p s → ∃ k s', good k ∧ flat k ∧ dep k ≤ d ∧ Pc p s s' ∧ callN tab m 6 [.obj p, .int d] s = .ok (kD k) s' := by
  intro d
  induction d with
  | zero =>
    intro m p s hm hd hp
    obtain ⟨n, rfl⟩ : ∃ n, m = n + 1 := ⟨m - 1, by omega⟩
    rw [call_at (T := tab) (i := 6) (F := f_flat_kind) rfl rfl]
    obtain ⟨w, s1, w1, w2, pc1, e1⟩ := t_takeM (m := n) (k := 8) (by omega) hp (by decide) (by decide)
    obtain ⟨x, hx, ex⟩ := leaf_at w1
    refine ⟨.leaf x, s1, hx, trivial, Nat.le_refl _, pc1, ?_⟩
    have hf := fin_set (d := kD (.leaf x)) pc1.len (pc1.at_ hp).clo (kD_lt _)
    simp [f_flat_kind, b_flat_kind, callK_of e1, ex, hf]
  | succ d ih =>
    intro m p s hm hd hp
    obtain ⟨n, rfl⟩ : ∃ n, m = n + 1 := ⟨m - 1, by omega⟩
    rw [call_at (T := tab) (i := 6) (F := f_flat_kind) rfl rfl]
    obtain ⟨w, s1, w1, w2, pc1, e1⟩ := t_takeM (m := n) (k := 8) (by omega) hp (by decide) (by decide)
    by_cases hw : w < 3
    · obtain ⟨x, hx, ex⟩ := leaf_at w1
      refine ⟨.leaf x, s1, hx, trivial, Nat.zero_le _, pc1, ?_⟩
      have hf := fin_set (d := kD (.leaf x)) pc1.len (pc1.at_ hp).clo (kD_lt _)
      simp [f_flat_kind, b_flat_kind, callK_of e1, ex, hf, hw]
    have hp1 := pc1.at_ hp
    obtain ⟨w', s2, v1, v2, pc2, e2⟩ := t_takeM (m := n) (k := 3) (by omega) hp1 (by decide) (by decide)
    have hp2 := pc2.at_ hp1
    have hd0 : ¬ ((d : Int) + 1 = 0) := by omega
    have sm : small62 ((if 5 < w then 1 else 0) + w') := by split <;> exact small_of (by omega) (by omega)
    have few : ((if 5 < w then 1 else 0) + w').toNat ≤ 3 := by split <;> omega
    obtain ⟨ys, s3, pc3, al, e3⟩ := cp_walk (β := D) (cf := callN tab n) (g := tab.gc) (elt := Ex.call 5 ((Ex.var 0).cons Ex.nil)) (i := 6) (l := wipeL [some (D.obj p), some (D.int (↑d + 1)), some (D.int w), none, none, none, none] [6])
      (R := fun _ y => ∃ x ∈ labels, y = D.str x) (by simp [wipeL]) (src := none) (upTo 0 ((if 5 < w then 1 else 0) + w').toNat) [] s2 hp2 (by rw [up_len, List.length_nil]; omega) (fun _ _ => trivial) fun x _ s4 hp4 => by
        obtain ⟨z, s5, hz, pc5, e5⟩ := t_labelM (m := n) (by omega) hp4
        refine ⟨.str z, s5, pc5, ⟨z, hz, rfl⟩, fun k => ?_⟩
        simp [wipeL, callK_of e5]
    obtain ⟨xs, rfl, hxs⟩ := labs al
    have hp3 := pc3.at_ hp2
    have lx : xs.length ≤ 3 := by
      have := al.len
      rw [List.length_map, up_len] at this
      omega
    have hfs := fs_sort (s := s3) (xs := xs) (by omega)
    have hp6 : PotAt p (s3 ++ [.lst ((srt xs).map D.str)]) := hp3.push (lt_strs _)
    obtain ⟨zs, s7, pc7, al7, e7⟩ := cp_walk (β := D) (cf := callN tab n) (g := tab.gc) (elt := ((Ex.var 5).cons ((Ex.call 6 ((Ex.var 0).cons ((Ex.bin Bop.sub (Ex.var 1) (Ex.int 1)).cons Ex.nil))).cons Ex.nil)).tup) (i := 5)
      (l := wipeL [some (D.obj p), some (D.int (↑d + 1)), some (D.int w), some (.obj s3.length), none, none, none] [5]) (R := fun x y => ∃ n k, x = D.str n ∧ y = D.tup [.str n, kD k] ∧ (good k ∧ flat k ∧ dep k ≤ d)) (by simp [wipeL]) (src := some (s3.length, (srt xs).map D.str)) ((srt xs).map D.str) [] (s3 ++ [.lst ((srt xs).map D.str)]) hp6
      (by rw [List.length_map, List.length_nil]; have := srt_len xs; omega) (fun s8 h8 => src_stay hp3.lt h8) fun x hx s8 hp8 => by
        obtain ⟨z, _, rfl⟩ := List.mem_map.mp hx
        obtain ⟨k, s9, g1, g2, g3, pc9, e9⟩ := ih n p s8 (by omega) (by omega) hp8
        refine ⟨.tup [.str z, kD k], s9, pc9, ⟨z, k, rfl, rfl, g1, g2, g3⟩, fun k => ?_⟩
        simp [wipeL, callK_of e9]
    obtain ⟨rs, rfl, hn, ha⟩ := rows al7
    obtain ⟨g1, g2, g3⟩ := rows_good ha (by rw [hn]; exact fun n hx => hxs n (srt_mem.mp hx))
    have nd : (names rs).Nodup := by rw [hn]; exact srt_nd xs
    obtain ⟨sf, pcf, ef⟩ := fin_pc hp ((pc1.trans pc2).trans pc3) pc7
    have it : itsR (s3 ++ [.lst ((srt xs).map D.str)]) (.d (.obj s3.length)) = some ⟨(srt xs).map D.str, some (s3.length, (srt xs).map D.str)⟩ := its_obj (by rw [List.getElem?_append_right (Nat.le_refl _), Nat.sub_self]; rfl)
    by_cases h6 : w < 6
    · refine ⟨.rcd rs, sf, ⟨g1, nd⟩, g2, by unfold dep; omega, pcf, ?_⟩
      have := ef (kD (.rcd rs)) (kD_lt _)
      simp [f_flat_kind, b_flat_kind, callK_of e1, callK_of e2, hw, hd0, range_ok sm, e3, hfs, it, e7, h6]
      exact this
    · refine ⟨.cho rs, sf, ⟨g1, nd, g2⟩, g2, by unfold dep; omega, pcf, ?_⟩
      have := ef (kD (.cho rs)) (kD_lt _)
      simp [f_flat_kind, b_flat_kind, callK_of e1, callK_of e2, hw, hd0, range_ok sm, e3, hfs, it, e7, h6]
      exact this
end Nv.K61

set_option maxRecDepth 100000
set_option autoImplicit false
set_option linter.all false
set_option maxHeartbeats 1000000
namespace Nv.K61
open PySem PySem.Spec PyProof.Rows L2
mutual
theorem flat_cnt : ∀ k : Kd, flat k → cnt k = 0
  | .leaf _, _ => by unfold cnt; rfl
  | .bag _, h => by unfold flat at h; exact h.elim
  | .rcd rs, h => by unfold flat at h; unfold cnt; exact flats_cnt rs h
  | .cho rs, h => by unfold flat at h; unfold cnt; exact flats_cnt rs h
theorem flats_cnt : ∀ rs : Ks, flats rs → cnts rs = 0
  | .nil, _ => by unfold cnts; rfl
  | .cons _ k r, h => by
    unfold flats at h
    unfold cnts
    rw [flat_cnt k h.1, flats_cnt r h.2]
end
theorem rows_kind : ∀ {rs : Ks} {d c : Nat}, KsAll (fun k => good k ∧ dep k ≤ d ∧ cnt k ≤ c) rs → (∀ n ∈ names rs, n ∈ labels) → goods rs ∧ deps rs ≤ d ∧ cnts rs ≤ (names rs).length * c
  | .nil, d, c, _, _ => ⟨trivial, Nat.zero_le _, by unfold cnts; exact Nat.zero_le _⟩
  | .cons n k r, d, c, h, hn => by
    obtain ⟨⟨h1, h2, h3⟩, h4⟩ := h
    obtain ⟨g1, g2, g3⟩ := rows_kind h4 fun x hx => hn x (by unfold names; exact .tail _ hx)
    refine ⟨⟨hn n (by unfold names; exact .head _), h1, g1⟩, ?_, ?_⟩
    · unfold deps
      exact Nat.max_le.mpr ⟨h2, g2⟩
    · unfold cnts names
      rw [List.length_cons, Nat.succ_mul]
      omega
theorem t_kind : ∀ (d m p : Nat) (s : Sto), d + 6 ≤ m → d ≤ 4 → PotAt p s → ∃ k s', good k ∧ dep k ≤ d + 2 ∧ cnt k ≤ 2 ^ d - 1 ∧ Pc p s s' ∧ callN tab m 7 [.obj p, .int d] s = .ok (kD k) s' := by
  have flt : ∀ (d n p : Nat) (s : Sto) (w : Int) (s1 : Sto), d + 6 ≤ n + 1 → PotAt p s → Pc p s s1 → callN tab n 4 [.obj p, .int 6] s = .ok (.int w) s1 → (w < 3 ∨ d = 0) →
      ∃ k s', good k ∧ dep k ≤ d + 2 ∧ cnt k ≤ 2 ^ d - 1 ∧ Pc p s s' ∧ callN tab (n + 1) 7 [.obj p, .int d] s = .ok (kD k) s' := by
    intro d n p s w s1 hm hp pc1 e1 hw
    obtain ⟨k, s2, g1, g2, g3, pc2, e2⟩ := t_flat (min d 2) n p s1 (by omega) (by omega) (pc1.at_ hp)
    have pc := pc1.trans pc2
    refine ⟨k, s2, g1, by omega, by rw [flat_cnt k g2]; exact Nat.zero_le _, pc, ?_⟩
    rw [call_at (T := tab) (i := 7) (F := f_kind) rfl rfl]
    have hf := fin_set (d := kD k) pc.len (pc.at_ hp).clo (kD_lt _)
    have em : (if (2 : Int) < (d : Int) then (2 : Int) else (d : Int)) = ((min d 2 : Nat) : Int) := by split <;> omega
    by_cases h3 : w < 3
    · simp [f_kind, b_kind, callK_of e1, h3, em, callK_of e2, hf]
    · have h0 : (d : Int) = 0 := by omega
      have em0 : (min d 2 : Nat) = 0 := by omega
      rw [em0] at e2
      have e2' : callN tab n 6 [.obj p, .int 0] s1 = .ok (kD k) s2 := e2
      simp [f_kind, b_kind, callK_of e1, h3, h0, callK_of e2', hf]
  intro d
  induction d with
  | zero =>
    intro m p s hm hd hp
    obtain ⟨n, rfl⟩ : ∃ n, m = n + 1 := ⟨m - 1, by omega⟩
    obtain ⟨w, s1, w1, w2, pc1, e1⟩ := t_takeM (m := n) (k := 6) (by omega) hp (by decide) (by decide)
    exact flt 0 n p s w s1 hm hp pc1 e1 (.inr rfl)
  | succ d ih =>
    intro m p s hm hd hp
    obtain ⟨n, rfl⟩ : ∃ n, m = n + 1 := ⟨m - 1, by omega⟩
    obtain ⟨w, s1, w1, w2, pc1, e1⟩ := t_takeM (m := n) (k := 6) (by omega) hp (by decide) (by decide)
    by_cases hw : w < 3
    · exact flt (d + 1) n p s w s1 hm hp pc1 e1 (.inl hw)
    have hp1 := pc1.at_ hp
    have hd0 : ¬ ((d : Int) + 1 = 0) := by omega
    have pw : 2 ^ (d + 1) = 2 ^ d * 2 := Nat.pow_succ ..
    have pp : 0 < 2 ^ d := Nat.pow_pos (by decide)
    by_cases h5 : w < 5
    · obtain ⟨k, s2, g1, g2, g3, pc2, e2⟩ := ih n p s1 (by omega) (by omega) hp1
      have pc := pc1.trans pc2
      refine ⟨.bag k, s2, g1, by unfold dep; omega, by unfold cnt; omega, pc, ?_⟩
      rw [call_at (T := tab) (i := 7) (F := f_kind) rfl rfl]
      have hf := fin_set (d := kD (.bag k)) pc.len (pc.at_ hp).clo (kD_lt _)
      simp [f_kind, b_kind, callK_of e1, hw, hd0, h5, callK_of e2]
      exact hf
    obtain ⟨w', s2, v1, v2, pc2, e2⟩ := t_takeM (m := n) (k := 2) (by omega) hp1 (by decide) (by decide)
    have hp2 := pc2.at_ hp1
    have sm : small62 (1 + w') := small_of (by omega) (by omega)
    obtain ⟨ys, s3, pc3, al, e3⟩ := cp_walk (β := D) (cf := callN tab n) (g := tab.gc) (elt := Ex.call 5 ((Ex.var 0).cons Ex.nil)) (i := 4) (l := wipeL [some (D.obj p), some (D.int (↑d + 1)), some (D.int w), none, none, none] [4])
      (R := fun _ y => ∃ x ∈ labels, y = D.str x) (by simp [wipeL]) (src := none) (upTo 0 (1 + w').toNat) [] s2 hp2 (by rw [up_len, List.length_nil]; omega) (fun _ _ => trivial) fun x _ s4 hp4 => by
        obtain ⟨z, s5, hz, pc5, e5⟩ := t_labelM (m := n) (by omega) hp4
        refine ⟨.str z, s5, pc5, ⟨z, hz, rfl⟩, fun k => ?_⟩
        simp [wipeL, callK_of e5]
    obtain ⟨xs, rfl, hxs⟩ := labs al
    have hp3 := pc3.at_ hp2
    have lx : xs.length ≤ 2 := by
      have := al.len
      rw [List.length_map, up_len] at this
      omega
    have hfs := fs_sort (s := s3) (xs := xs) (by omega)
    have hp6 : PotAt p (s3 ++ [.lst ((srt xs).map D.str)]) := hp3.push (lt_strs _)
    obtain ⟨zs, s7, pc7, al7, e7⟩ := cp_walk (β := D) (cf := callN tab n) (g := tab.gc) (elt := ((Ex.var 5).cons ((Ex.call 7 ((Ex.var 0).cons ((Ex.bin Bop.sub (Ex.var 1) (Ex.int 1)).cons Ex.nil))).cons Ex.nil)).tup) (i := 5)
      (l := wipeL [some (D.obj p), some (D.int (↑d + 1)), some (D.int w), some (.obj s3.length), none, none] [5]) (R := fun x y => ∃ n k, x = D.str n ∧ y = D.tup [.str n, kD k] ∧ (good k ∧ dep k ≤ d + 2 ∧ cnt k ≤ 2 ^ d - 1)) (by simp [wipeL]) (src := some (s3.length, (srt xs).map D.str)) ((srt xs).map D.str) [] (s3 ++ [.lst ((srt xs).map D.str)]) hp6
      (by rw [List.length_map, List.length_nil]; have := srt_len xs; omega) (fun s8 h8 => src_stay hp3.lt h8) fun x hx s8 hp8 => by
        obtain ⟨z, _, rfl⟩ := List.mem_map.mp hx
        obtain ⟨k, s9, g1, g2, g3, pc9, e9⟩ := ih n p s8 (by omega) (by omega) hp8
        refine ⟨.tup [.str z, kD k], s9, pc9, ⟨z, k, rfl, rfl, g1, g2, g3⟩, fun k => ?_⟩
        simp [wipeL, callK_of e9]
    obtain ⟨rs, rfl, hn, ha⟩ := rows al7
    obtain ⟨g1, g2, g3⟩ := rows_kind ha (by rw [hn]; exact fun n hx => hxs n (srt_mem.mp hx))
    have nd : (names rs).Nodup := by rw [hn]; exact srt_nd xs
    have ll : (names rs).length ≤ 2 := by rw [hn]; have := srt_len xs; omega
    obtain ⟨sf, pcf, ef⟩ := fin_pc hp ((pc1.trans pc2).trans pc3) pc7
    have it : itsR (s3 ++ [.lst ((srt xs).map D.str)]) (.d (.obj s3.length)) = some ⟨(srt xs).map D.str, some (s3.length, (srt xs).map D.str)⟩ := its_obj (by rw [List.getElem?_append_right (Nat.le_refl _), Nat.sub_self]; rfl)
    have hmul : (names rs).length * (2 ^ d - 1) ≤ 2 * (2 ^ d - 1) := Nat.mul_le_mul_right _ ll
    refine ⟨.rcd rs, sf, ⟨g1, nd⟩, by unfold dep; omega, by unfold cnt; omega, pcf, ?_⟩
    have := ef (kD (.rcd rs)) (kD_lt _)
    rw [call_at (T := tab) (i := 7) (F := f_kind) rfl rfl]
    simp [f_kind, b_kind, callK_of e1, callK_of e2, hw, hd0, h5, range_ok sm, e3, hfs, it, e7]
    exact this
end Nv.K61

set_option maxRecDepth 100000
set_option autoImplicit false
set_option linter.all false
set_option maxHeartbeats 1000000
namespace Nv.K61
open PySem PySem.Spec PyProof.Rows L2
abbrev into : Str := "[]"
def plD (pl : List Str) : D := .tup (pl.map .str)
mutual
def mk : Kd → List Str → List (List Str)
  | .leaf _, _ => []
  | .bag k, pl => pl :: mk k (pl ++ [into])
  | .rcd rs, pl => mks rs pl
  | .cho rs, pl => mks rs pl
def mks : Ks → List Str → List (List Str)
  | .nil, _ => []
  | .cons n k r, pl => mk k (pl ++ [n]) ++ mks r pl
end
theorem mk_bag (k : Kd) (pl : List Str) : mk (.bag k) pl = pl :: mk k (pl ++ [into]) := by rw [mk]
theorem mk_rcd (rs : Ks) (pl : List Str) : mk (.rcd rs) pl = mks rs pl := by rw [mk]
theorem mk_cho (rs : Ks) (pl : List Str) : mk (.cho rs) pl = mks rs pl := by rw [mk]
theorem mks_cons (n : Str) (k : Kd) (r : Ks) (pl : List Str) : mks (.cons n k r) pl = mk k (pl ++ [n]) ++ mks r pl := by rw [mks]
mutual
theorem mk_len : ∀ (k : Kd) (pl : List Str), (mk k pl).length = cnt k
  | .leaf _, _ => by unfold mk cnt; rfl
  | .bag k, pl => by unfold mk cnt; rw [List.length_cons, mk_len k]
  | .rcd rs, pl => by unfold mk cnt; exact mks_len rs pl
  | .cho rs, pl => by unfold mk cnt; exact mks_len rs pl
theorem mks_len : ∀ (rs : Ks) (pl : List Str), (mks rs pl).length = cnts rs
  | .nil, _ => by unfold mks cnts; rfl
  | .cons n k r, pl => by unfold mks cnts; rw [List.length_append, mk_len k, mks_len r]
end
mutual
theorem mk_flat : ∀ (k : Kd) (pl : List Str), flat k → mk k pl = []
  | .leaf _, _, _ => by unfold mk; rfl
  | .bag k, pl, h => by unfold flat at h; exact h.elim
  | .rcd rs, pl, h => by unfold flat at h; unfold mk; exact mks_flat rs pl h
  | .cho rs, pl, h => by unfold flat at h; unfold mk; exact mks_flat rs pl h
theorem mks_flat : ∀ (rs : Ks) (pl : List Str), flats rs → mks rs pl = []
  | .nil, _, _ => by unfold mks; rfl
  | .cons n k r, pl, h => by
    unfold flats at h
    unfold mks
    rw [mk_flat k _ h.1, mks_flat r _ h.2]; rfl
end
theorem pls_lt {n : Nat} : ∀ ps : List (List Str), D.ltAll n (ps.map plD) = true
  | [] => rfl
  | p :: r => by
    have h : (plD p).lt n = true := by unfold plD D.lt; exact lt_strs _
    rw [List.map_cons]
    unfold D.ltAll
    rw [h, pls_lt r]; rfl
theorem lay_w : ∀ x ∈ (["bag", "record", "choice", "number", "text", "truth", "[]", "a", "ab", "b", "c", "key", "x"] : List Str), PyData.canLay0 (.str x) = true := by decide +kernel
theorem is_w {s : Sto} {x y : Str} (hx : x ∈ (["bag", "record", "choice", "number", "text", "truth", "[]", "a", "ab", "b", "c", "key", "x"] : List Str)) (hy : y ∈ (["bag", "record", "choice", "number", "text", "truth", "[]", "a", "ab", "b", "c", "key", "x"] : List Str)) :
    eqR s (.d (.str x)) (.d (.str y)) = some (decide (x = y)) := eq_str (lay_w x hx) (lay_w y hy)
theorem in_w {s : Sto} : inR s (.d (.str "record")) (.l [.str "record", .str "choice"]) = some true ∧ inR s (.d (.str "choice")) (.l [.str "record", .str "choice"]) = some true ∧
    ∀ x ∈ (["number", "text", "truth"] : List Str), inR s (.d (.str x)) (.l [.str "record", .str "choice"]) = some false := by
  have key : ∀ x : Str, SeqAt.shaped (.str x) = true → inR s (.d (.str x)) (.l [.str "record", .str "choice"]) = some ([PyData.str "record", .str "choice"].any fun z => PyData.eqv z (.str x)) := fun x h => by
    show (if SeqAt.shaped (.str x) = true ∧ SeqAt.shaped (.list [.str "record", .str "choice"]) = true then _ else none) = _
    rw [if_pos ⟨h, by decide +kernel⟩]
    rfl
  refine ⟨(key _ (by decide +kernel)).trans (by decide +kernel), (key _ (by decide +kernel)).trans (by decide +kernel), fun x hx => ?_⟩
  simp only [List.mem_cons, List.not_mem_nil, or_false] at hx
  rcases hx with rfl | rfl | rfl <;> exact (key _ (by decide +kernel)).trans (by decide +kernel)
/-- one more list behind -/
theorem last_at {s g : Sto} {o : Ob} : ((s ++ g) ++ [o])[(s ++ g).length]? = some o := by
  rw [List.getElem?_append_right (Nat.le_refl _), Nat.sub_self]; rfl
theorem bt_pl {pl : List Str} {x : Str} (h : pl.length ≤ 100) (s : Sto) : binR .add s (.d (.tup (pl.map D.str))) (.d (.tup [.str x])) = some (.d (.tup (pl.map D.str ++ [.str x]))) :=
  bin_tup (by rw [List.length_map, List.length_singleton, sizeLine_eq]; omega)
abbrev mbody : Sm := .cons (.set (.v 2) (.bin .add (.var 2) (.call 8 (.cons (.var 4) (.cons (.bin .add (.var 1) (.tup (.cons (.var 3) .nil))) .nil))))) .nil
mutual
theorem t_marked : ∀ (k : Kd) (m : Nat) (s : Sto) (pl : List Str), dep k < m → pl.length + dep k ≤ 100 → cnt k ≤ 1000 → good k → Clo s → callN tab m 8 [kD k, plD pl] s = .ok (.obj s.length) (s ++ [.lst ((mk k pl).map plD)])
  | .leaf x, m, s, pl, hm, hp, hc, hg, cl => by
    obtain ⟨n, rfl⟩ : ∃ n, m = n + 1 := ⟨m - 1, by omega⟩
    rw [call_at (T := tab) (i := 8) (F := f_marked) rfl rfl]
    unfold good at hg
    have e1 : eqR s (.d (.str x)) (.d (.str "bag")) = some (decide (x = "bag")) := is_w (by revert hg; simp; intro h; rcases h with h | h | h <;> simp [h]) (by decide)
    have e2 : ¬ x = "bag" := by
      simp only [List.mem_cons, List.not_mem_nil, or_false] at hg
      rcases hg with rfl | rfl | rfl <;> decide
    have e3 : ∀ s1, inR s1 (.d (.str x)) (.l [.str "record", .str "choice"]) = some false := fun s1 => in_w.2.2 x hg
    have hf : fin s.length (.obj s.length) (s ++ [.lst []]) = .ok (.obj s.length) (s ++ [.lst []]) := fin_new cl (Nat.le_refl _) (by rw [List.getElem?_append_right (Nat.le_refl _), Nat.sub_self]; rfl) rfl
    simp [f_marked, b_marked, kD, e1, e2, e3, mk]
    exact hf
  | .bag k, m, s, pl, hm, hp, hc, hg, cl => by
    obtain ⟨n, rfl⟩ : ∃ n, m = n + 1 := ⟨m - 1, by omega⟩
    rw [call_at (T := tab) (i := 8) (F := f_marked) rfl rfl]
    unfold good at hg
    unfold dep at hm hp
    unfold cnt at hc
    have ih := t_marked k n s (pl ++ [into]) (by omega) (by rw [List.length_append, List.length_singleton]; omega) (by omega) hg cl
    have e1 : ∀ s1, eqR s1 (.d (.str "bag")) (.d (.str "bag")) = some true := fun s1 => by rw [is_w (by decide) (by decide)]; rfl
    have e0 : plD pl = .tup (pl.map .str) := rfl
    have e2 : plD (pl ++ [into]) = .tup (pl.map D.str ++ [.str "[]"]) := by unfold plD; rw [List.map_append]; rfl
    rw [e2] at ih
    have lx := bt_pl (pl := pl) (x := "[]") (by omega)
    have cl1 : Clo (s ++ [.lst ((mk k (pl ++ [into])).map plD)]) := cl.push (pls_lt _)
    have ct : ∀ s1 : Sto, s1[s.length]? = some (.lst ((mk k (pl ++ [into])).map plD)) → binR .add s1 (.l [plD pl]) (.d (.obj s.length)) = some (.l ((mk (.bag k) pl).map plD)) := fun s1 h1 => by
      rw [cat_l (a := .l [plD pl]) (b := .d (.obj s.length)) (xs := [plD pl]) (ys := (mk k (pl ++ [into])).map plD) rfl (lstAt_of h1) (by rw [List.length_map, mk_len, sizeLine_eq, List.length_singleton]; omega)]
      rw [mk_bag]; rfl
    have ct1 := ct (s ++ [.lst ((mk k (pl ++ [into])).map plD)]) (by rw [List.getElem?_append_right (Nat.le_refl _), Nat.sub_self]; rfl)
    have hf : fin s.length (.obj (s ++ [Ob.lst ((mk k (pl ++ [into])).map plD)]).length) (s ++ ([Ob.lst ((mk k (pl ++ [into])).map plD)] ++ [.lst ((mk (.bag k) pl).map plD)])) = .ok (.obj s.length) (s ++ [.lst ((mk (.bag k) pl).map plD)]) := by
      refine fin_new cl (by rw [List.length_append]; omega) ?_ (pls_lt _)
      rw [← List.append_assoc]
      exact last_at
    rw [← List.append_assoc] at hf
    rw [e0] at ct1
    simp [f_marked, b_marked, kD, e1, e0, lx, callK_of ih, ct1]
    simp at hf
    exact hf
  | .rcd rs, m, s, pl, hm, hp, hc, hg, cl => by
    obtain ⟨n, rfl⟩ : ∃ n, m = n + 1 := ⟨m - 1, by omega⟩
    rw [call_at (T := tab) (i := 8) (F := f_marked) rfl rfl]
    unfold good at hg
    unfold dep at hm hp
    unfold cnt at hc
    obtain ⟨g', j', x', y', c1, c2, c3, c4⟩ := t_mrows rs n s [.lst []] pl [] (kD (.rcd rs)) s.length none none (by omega) (by omega) (by rw [List.length_nil]; omega) hg.1 (cl.push rfl) (Nat.le_refl _) (by rw [List.getElem?_append_right (Nat.le_refl _), Nat.sub_self]; rfl)
    have e1 : ∀ s1, eqR s1 (.d (.str "record")) (.d (.str "bag")) = some false := fun s1 => by rw [is_w (by decide) (by decide)]; rfl
    have e0 : plD pl = .tup (pl.map .str) := rfl
    have hf := fin_new (g := g') cl c2 c3 (pls_lt _)
    rw [List.nil_append] at hf
    rw [mk_rcd]
    simp only [kD] at c4
    simp [f_marked, b_marked, kD, e1, in_w.1, c4]
    exact hf
  | .cho rs, m, s, pl, hm, hp, hc, hg, cl => by
    obtain ⟨n, rfl⟩ : ∃ n, m = n + 1 := ⟨m - 1, by omega⟩
    rw [call_at (T := tab) (i := 8) (F := f_marked) rfl rfl]
    unfold good at hg
    unfold dep at hm hp
    unfold cnt at hc
    obtain ⟨g', j', x', y', c1, c2, c3, c4⟩ := t_mrows rs n s [.lst []] pl [] (kD (.cho rs)) s.length none none (by omega) (by omega) (by rw [List.length_nil]; omega) hg.1 (cl.push rfl) (Nat.le_refl _) (by rw [List.getElem?_append_right (Nat.le_refl _), Nat.sub_self]; rfl)
    have e1 : ∀ s1, eqR s1 (.d (.str "choice")) (.d (.str "bag")) = some false := fun s1 => by rw [is_w (by decide) (by decide)]; rfl
    have hf := fin_new (g := g') cl c2 c3 (pls_lt _)
    rw [List.nil_append] at hf
    rw [mk_cho]
    simp only [kD] at c4
    simp [f_marked, b_marked, kD, e1, in_w.2.1, c4]
    exact hf
theorem t_mrows : ∀ (rs : Ks) (n : Nat) (s g : Sto) (pl : List Str) (acc : List (List Str)) (kd : D) (j : Nat) (x y : Option D), deps rs < n → pl.length + deps rs + 1 ≤ 100 → acc.length + cnts rs ≤ 1000 → goods rs → Clo (s ++ g) → s.length ≤ j → (s ++ g)[j]? = some (.lst (acc.map plD)) →
    ∃ g' j' x' y', Clo (s ++ g') ∧ s.length ≤ j' ∧ (s ++ g')[j']? = some (.lst ((acc ++ mks rs pl).map plD)) ∧
      ∀ (k : Fl → Loc → Sto → Res D), forK (.c (.v 3) (.c (.v 4) .n)) none (sden (callN tab n) tab.gc mbody) (ksD rs) [some kd, some (plD pl), some (.obj j), x, y] (s ++ g) k = k .nx [some kd, some (plD pl), some (.obj j'), x', y'] (s ++ g')
  | .nil, n, s, g, pl, acc, kd, j, x, y, _, _, _, _, cl, hj, ha => ⟨g, j, x, y, cl, hj, by rw [show mks .nil pl = [] by rw [mks], List.append_nil]; exact ha, fun k => for_nil trivial⟩
  | .cons nm kk r, n, s, g, pl, acc, kd, j, x, y, hd, hp, hc, hg, cl, hj, ha => by
    unfold deps at hd hp
    unfold cnts at hc
    unfold goods at hg
    have ih := t_marked kk n (s ++ g) (pl ++ [nm]) (by omega) (by rw [List.length_append, List.length_singleton]; omega) (by omega) hg.2.1 cl
    have e2 : plD (pl ++ [nm]) = .tup (pl.map D.str ++ [.str nm]) := by unfold plD; rw [List.map_append]; rfl
    rw [e2] at ih
    have lx := bt_pl (pl := pl) (x := nm) (by omega)
    have hjl : j < (s ++ g).length := (List.getElem?_eq_some_iff.mp ha).1
    have cl1 : Clo ((s ++ g) ++ [.lst ((mk kk (pl ++ [nm])).map plD)]) := cl.push (pls_lt _)
    have ct : binR .add ((s ++ g) ++ [.lst ((mk kk (pl ++ [nm])).map plD)]) (.d (.obj j)) (.d (.obj (s ++ g).length)) = some (.l ((acc ++ mk kk (pl ++ [nm])).map plD)) := by
      rw [cat_l (a := .d (.obj j)) (b := .d (.obj (s ++ g).length)) (xs := acc.map plD) (ys := (mk kk (pl ++ [nm])).map plD) (lstAt_of (by rw [List.getElem?_append_left hjl]; exact ha)) (lstAt_of last_at) (by rw [List.length_map, List.length_map, mk_len, sizeLine_eq]; omega), List.map_append]
    have cl2 : Clo (s ++ (g ++ [.lst ((mk kk (pl ++ [nm])).map plD), .lst ((acc ++ mk kk (pl ++ [nm])).map plD)])) := by
      have := cl1.push (o := .lst ((acc ++ mk kk (pl ++ [nm])).map plD)) (pls_lt _)
      simpa using this
    have h2 : (s ++ (g ++ [.lst ((mk kk (pl ++ [nm])).map plD), .lst ((acc ++ mk kk (pl ++ [nm])).map plD)]))[((s ++ g) ++ [Ob.lst ((mk kk (pl ++ [nm])).map plD)]).length]? = some (.lst ((acc ++ mk kk (pl ++ [nm])).map plD)) := by
      have : s ++ (g ++ [Ob.lst ((mk kk (pl ++ [nm])).map plD), .lst ((acc ++ mk kk (pl ++ [nm])).map plD)]) = ((s ++ g) ++ [Ob.lst ((mk kk (pl ++ [nm])).map plD)]) ++ [.lst ((acc ++ mk kk (pl ++ [nm])).map plD)] := by simp
      rw [this]
      exact last_at
    obtain ⟨g', j', x', y', c1, c2, c3, c4⟩ := t_mrows r n s (g ++ [.lst ((mk kk (pl ++ [nm])).map plD), .lst ((acc ++ mk kk (pl ++ [nm])).map plD)]) pl (acc ++ mk kk (pl ++ [nm])) kd (((s ++ g) ++ [Ob.lst ((mk kk (pl ++ [nm])).map plD)]).length) (some (.str nm)) (some (kD kk)) (by omega) (by omega)
      (by rw [List.length_append, mk_len]; omega) hg.2.2 cl2 (by rw [List.length_append, List.length_append]; omega) h2
    refine ⟨g', j', x', y', c1, c2, by rw [mks_cons, ← List.append_assoc]; exact c3, fun k => ?_⟩
    rw [ksD, for_cons (show srcOk none (s ++ g) from trivial)]
    have e0 : plD pl = .tup (pl.map .str) := rfl
    have c5 := c4 k
    rw [e0] at c5 ⊢
    have as : s ++ (g ++ [Ob.lst ((mk kk (pl ++ [nm])).map plD), .lst ((acc ++ mk kk (pl ++ [nm])).map plD)]) = ((s ++ g) ++ [Ob.lst ((mk kk (pl ++ [nm])).map plD)]) ++ [.lst ((acc ++ mk kk (pl ++ [nm])).map plD)] := by simp
    rw [as] at c5
    simp [-List.append_assoc, -List.length_append, -List.map_append, mbody, lx, callK_of ih, ct]
    exact c5
end
end Nv.K61

set_option maxRecDepth 100000
set_option autoImplicit false
set_option linter.all false
set_option maxHeartbeats 1000000
namespace Nv
open PySem PySem.Spec PyProof.Rows L2
theorem ext_ok {s : Sto} {i : Nat} {a : RD} {xs ys : List D} (h : s[i]? = some (.lst xs)) (h2 : asM s a = some ys) (hl : xs.length + ys.length ≤ sizeLine) : m1R .extend (.obj i) a s = .ok (.d .non) (s.set i (.lst (xs ++ ys))) := by
  unfold m1R
  simp only
  rw [h]
  simp only
  rw [h2]
  simp only
  rw [if_pos hl]
theorem app_ok {s : Sto} {i : Nat} {d : D} {xs : List D} (h : s[i]? = some (.lst xs)) (hl : xs.length < sizeLine) : m1R .append (.obj i) (.d d) s = .ok (.d .non) (s.set i (.lst (xs ++ [d]))) := by
  unfold m1R
  simp only
  rw [h]
  simp only
  rw [if_pos hl]
theorem rev_ok {s : Sto} {i : Nat} {xs : List D} (h : s[i]? = some (.lst xs)) : m0R .reverse (.obj i) s = .ok (.d .non) (s.set i (.lst xs.reverse)) := by
  unfold m0R
  simp only
  rw [h]
theorem isl_ok {s : Sto} {i : Nat} {xs : List D} (h : s[i]? = some (.lst xs)) : isLstB s (.obj i) = true := by
  show (lstAt s i).isSome = true
  rw [lstAt_of h]; rfl
end Nv
namespace Nv.K61
open PySem PySem.Spec PyProof.Rows L2
@[simp] theorem gc0 : tab.gc 0 = some (.str "[]") := rfl
abbrev wbody : Sm := .cons (.ex (.m1 .extend (.var 2) (.call 0 (.cons (.var 4) (.cons (.bin .add (.var 1) (.tup (.cons (.var 3) .nil))) .nil))))) .nil
theorem mid_at {s g : Sto} {o : Ob} : (s ++ (o :: g))[s.length]? = some o := by
  rw [List.getElem?_append_right (Nat.le_refl _), Nat.sub_self]; rfl
mutual
theorem t_within : ∀ (k : Kd) (m : Nat) (s : Sto) (pl : List Str), dep k < m → pl.length + dep k ≤ 100 → cnt k ≤ 1000 → good k → Clo s → callN tab m 0 [kD k, plD pl] s = .ok (.obj s.length) (s ++ [.lst ((mk k pl).map plD)])
  | .leaf x, m, s, pl, hm, hp, hc, hg, cl => by
    obtain ⟨n, rfl⟩ : ∃ n, m = n + 1 := ⟨m - 1, by omega⟩
    rw [call_at (T := tab) (i := 0) (F := f_p_bags_within) rfl rfl]
    unfold good at hg
    have hx : x ∈ (["bag", "record", "choice", "number", "text", "truth", "[]", "a", "ab", "b", "c", "key", "x"] : List Str) := by
      simp only [List.mem_cons, List.not_mem_nil, or_false] at hg
      rcases hg with rfl | rfl | rfl <;> decide
    have e1 : ∀ s1, eqR s1 (.d (.str x)) (.d (.str "bag")) = some (decide (x = "bag")) := fun s1 => is_w hx (by decide)
    have e4 : ∀ s1, eqR s1 (.d (.str x)) (.d (.str "record")) = some (decide (x = "record")) := fun s1 => is_w hx (by decide)
    have e2 : ¬ x = "bag" := by
      simp only [List.mem_cons, List.not_mem_nil, or_false] at hg
      rcases hg with rfl | rfl | rfl <;> decide
    have e3 : ¬ x = "record" := by
      simp only [List.mem_cons, List.not_mem_nil, or_false] at hg
      rcases hg with rfl | rfl | rfl <;> decide
    have hf : fin s.length (.obj s.length) (s ++ [.lst []]) = .ok (.obj s.length) (s ++ [.lst []]) := fin_new cl (Nat.le_refl _) (by rw [List.getElem?_append_right (Nat.le_refl _), Nat.sub_self]; rfl) rfl
    simp [f_p_bags_within, b_p_bags_within, kD, e1, e2, e3, e4, mk]
    exact hf
  | .bag k, m, s, pl, hm, hp, hc, hg, cl => by
    obtain ⟨n, rfl⟩ : ∃ n, m = n + 1 := ⟨m - 1, by omega⟩
    rw [call_at (T := tab) (i := 0) (F := f_p_bags_within) rfl rfl]
    unfold good at hg
    unfold dep at hm hp
    unfold cnt at hc
    have ih := t_within k n s (pl ++ [into]) (by omega) (by rw [List.length_append, List.length_singleton]; omega) (by omega) hg cl
    have e1 : ∀ s1, eqR s1 (.d (.str "bag")) (.d (.str "bag")) = some true := fun s1 => by rw [is_w (by decide) (by decide)]; rfl
    have e0 : plD pl = .tup (pl.map .str) := rfl
    have e2 : plD (pl ++ [into]) = .tup (pl.map D.str ++ [.str "[]"]) := by unfold plD; rw [List.map_append]; rfl
    rw [e2] at ih
    have lx := bt_pl (pl := pl) (x := "[]") (by omega)
    have ct : ∀ s1 : Sto, s1[s.length]? = some (.lst ((mk k (pl ++ [into])).map plD)) → binR .add s1 (.l [plD pl]) (.d (.obj s.length)) = some (.l ((mk (.bag k) pl).map plD)) := fun s1 h1 => by
      rw [cat_l (a := .l [plD pl]) (b := .d (.obj s.length)) (xs := [plD pl]) (ys := (mk k (pl ++ [into])).map plD) rfl (lstAt_of h1) (by rw [List.length_map, mk_len, sizeLine_eq, List.length_singleton]; omega)]
      rw [mk_bag]; rfl
    have ct1 := ct (s ++ [.lst ((mk k (pl ++ [into])).map plD)]) mid_at
    have hf : fin s.length (.obj (s ++ [Ob.lst ((mk k (pl ++ [into])).map plD)]).length) (s ++ ([Ob.lst ((mk k (pl ++ [into])).map plD)] ++ [.lst ((mk (.bag k) pl).map plD)])) = .ok (.obj s.length) (s ++ [.lst ((mk (.bag k) pl).map plD)]) := by
      refine fin_new cl (by rw [List.length_append]; omega) ?_ (pls_lt _)
      rw [← List.append_assoc]
      exact last_at
    rw [← List.append_assoc] at hf
    rw [e0] at ct1
    simp [f_p_bags_within, b_p_bags_within, kD, e1, e0, lx, callK_of ih, ct1]
    simp at hf
    exact hf
  | .rcd rs, m, s, pl, hm, hp, hc, hg, cl => by
    obtain ⟨n, rfl⟩ : ∃ n, m = n + 1 := ⟨m - 1, by omega⟩
    rw [call_at (T := tab) (i := 0) (F := f_p_bags_within) rfl rfl]
    unfold good at hg
    unfold dep at hm hp
    unfold cnt at hc
    obtain ⟨g', x', y', c1, c4⟩ := t_wrows rs n s [] pl [] (kD (.rcd rs)) none none (by omega) (by omega) (by rw [List.length_nil]; omega) hg.1 (cl.push rfl)
    have e1 : ∀ s1, eqR s1 (.d (.str "record")) (.d (.str "bag")) = some false := fun s1 => by rw [is_w (by decide) (by decide)]; rfl
    have e3 : ∀ s1, eqR s1 (.d (.str "record")) (.d (.str "record")) = some true := fun s1 => by rw [is_w (by decide) (by decide)]; rfl
    have hf := fin_new (g := Ob.lst ((([] : List (List Str)) ++ mks rs pl).map plD) :: g') (o := Ob.lst ((([] : List (List Str)) ++ mks rs pl).map plD)) cl (Nat.le_refl _) mid_at (show Ob.lt _ (Ob.lst ((([] : List (List Str)) ++ mks rs pl).map plD)) = true from pls_lt _)
    rw [List.nil_append] at hf
    rw [mk_rcd]
    simp only [kD] at c4
    simp [f_p_bags_within, b_p_bags_within, kD, e1, e3]
    simp at c4
    rw [c4]
    exact hf
  | .cho rs, m, s, pl, hm, hp, hc, hg, cl => by
    obtain ⟨n, rfl⟩ : ∃ n, m = n + 1 := ⟨m - 1, by omega⟩
    rw [call_at (T := tab) (i := 0) (F := f_p_bags_within) rfl rfl]
    unfold good at hg
    have e1 : ∀ s1, eqR s1 (.d (.str "choice")) (.d (.str "bag")) = some false := fun s1 => by rw [is_w (by decide) (by decide)]; rfl
    have e3 : ∀ s1, eqR s1 (.d (.str "choice")) (.d (.str "record")) = some false := fun s1 => by rw [is_w (by decide) (by decide)]; rfl
    have hf : fin s.length (.obj s.length) (s ++ [.lst []]) = .ok (.obj s.length) (s ++ [.lst []]) := fin_new cl (Nat.le_refl _) mid_at rfl
    rw [mk_cho, mks_flat rs pl hg.2.2]
    simp [f_p_bags_within, b_p_bags_within, kD, e1, e3]
    exact hf
theorem t_wrows : ∀ (rs : Ks) (n : Nat) (s g : Sto) (pl : List Str) (acc : List (List Str)) (kd : D) (x y : Option D), deps rs < n → pl.length + deps rs + 1 ≤ 100 → acc.length + cnts rs ≤ 1000 → goods rs → Clo (s ++ (.lst (acc.map plD) :: g)) →
    ∃ g' x' y', Clo (s ++ (.lst ((acc ++ mks rs pl).map plD) :: g')) ∧
      ∀ (k : Fl → Loc → Sto → Res D), forK (.c (.v 3) (.c (.v 4) .n)) none (sden (callN tab n) tab.gc wbody) (ksD rs) [some kd, some (plD pl), some (.obj s.length), x, y] (s ++ (.lst (acc.map plD) :: g)) k = k .nx [some kd, some (plD pl), some (.obj s.length), x', y'] (s ++ (.lst ((acc ++ mks rs pl).map plD) :: g'))
  | .nil, n, s, g, pl, acc, kd, x, y, _, _, _, _, cl => ⟨g, x, y, by rw [show mks .nil pl = [] by rw [mks], List.append_nil]; exact cl, fun k => by rw [show mks .nil pl = [] by rw [mks], List.append_nil]; exact for_nil trivial⟩
  | .cons nm kk r, n, s, g, pl, acc, kd, x, y, hd, hp, hc, hg, cl => by
    unfold deps at hd hp
    unfold cnts at hc
    unfold goods at hg
    have ih := t_within kk n (s ++ (.lst (acc.map plD) :: g)) (pl ++ [nm]) (by omega) (by rw [List.length_append, List.length_singleton]; omega) (by omega) hg.2.1 cl
    have e2 : plD (pl ++ [nm]) = .tup (pl.map D.str ++ [.str nm]) := by unfold plD; rw [List.map_append]; rfl
    rw [e2] at ih
    have lx := bt_pl (pl := pl) (x := nm) (by omega)
    have cl1 : Clo ((s ++ (.lst (acc.map plD) :: g)) ++ [Ob.lst ((mk kk (pl ++ [nm])).map plD)]) := cl.push (pls_lt _)
    have as : (s ++ (Ob.lst (acc.map plD) :: g)) ++ [Ob.lst ((mk kk (pl ++ [nm])).map plD)] = s ++ (Ob.lst (acc.map plD) :: (g ++ [Ob.lst ((mk kk (pl ++ [nm])).map plD)])) := by simp
    have lt : (acc.map plD).length + ((mk kk (pl ++ [nm])).map plD).length ≤ sizeLine := by rw [List.length_map, List.length_map, mk_len, sizeLine_eq]; omega
    have ex := ext_ok (s := (s ++ (.lst (acc.map plD) :: g)) ++ [Ob.lst ((mk kk (pl ++ [nm])).map plD)]) (i := s.length) (a := .d (.obj (s ++ (Ob.lst (acc.map plD) :: g)).length)) (xs := acc.map plD) (ys := (mk kk (pl ++ [nm])).map plD) (by rw [as]; exact mid_at) (lstAt_of last_at) lt
    have st : ((s ++ (Ob.lst (acc.map plD) :: g)) ++ [Ob.lst ((mk kk (pl ++ [nm])).map plD)]).set s.length (Ob.lst (acc.map plD ++ (mk kk (pl ++ [nm])).map plD)) = s ++ (Ob.lst ((acc ++ mk kk (pl ++ [nm])).map plD) :: (g ++ [Ob.lst ((mk kk (pl ++ [nm])).map plD)])) := by
      rw [as, List.set_append_right _ _ (Nat.le_refl _), Nat.sub_self, List.map_append]; rfl
    rw [st] at ex
    have cl2 : Clo (s ++ (Ob.lst ((acc ++ mk kk (pl ++ [nm])).map plD) :: (g ++ [Ob.lst ((mk kk (pl ++ [nm])).map plD)]))) := by
      rw [← st]
      exact cl1.set (by rw [← List.map_append]; exact pls_lt _)
    obtain ⟨g', x', y', c1, c4⟩ := t_wrows r n s (g ++ [Ob.lst ((mk kk (pl ++ [nm])).map plD)]) pl (acc ++ mk kk (pl ++ [nm])) kd (some (.str nm)) (some (kD kk)) (by omega) (by omega)
      (by rw [List.length_append, mk_len]; omega) hg.2.2 cl2
    have hb : isLstB (s ++ (Ob.lst (acc.map plD) :: g)) (.obj s.length) = true := isl_ok mid_at
    refine ⟨g', x', y', by rw [mks_cons, ← List.append_assoc]; exact c1, fun k => ?_⟩
    rw [ksD, for_cons (show srcOk none _ from trivial)]
    have e0 : plD pl = .tup (pl.map .str) := rfl
    have c5 := c4 k
    rw [mks_cons, ← List.append_assoc]
    rw [e0] at c5 ⊢
    simp [-List.append_assoc, -List.length_append, -List.map_append, -isLst_of, wbody, lx, callK_of ih, hb, ex]
    exact c5
end
theorem t_bags_of {k : Kd} {m : Nat} {s : Sto} (hm : dep k + 1 < m) (h1 : dep k ≤ 100) (h2 : cnt k ≤ 1000) (hg : good k) (cl : Clo s) : callN tab m 1 [kD k] s = .ok (.obj s.length) (s ++ [.lst ((mk k []).map plD)]) := by
  obtain ⟨n, rfl⟩ : ∃ n, m = n + 1 := ⟨m - 1, by omega⟩
  rw [call_at (T := tab) (i := 1) (F := f_p_bags_of) rfl rfl]
  have ih := t_within k n s [] (by omega) (by rw [List.length_nil]; omega) h2 hg cl
  have e0 : plD [] = .tup [] := rfl
  rw [e0] at ih
  have hf := fin_new (g := [Ob.lst ((mk k []).map plD)]) (o := Ob.lst ((mk k []).map plD)) cl (Nat.le_refl _) mid_at (show Ob.lt _ (Ob.lst ((mk k []).map plD)) = true from pls_lt _)
  simp [f_p_bags_of, b_p_bags_of, callK_of ih]
  exact hf
end Nv.K61

set_option maxRecDepth 100000
set_option autoImplicit false
set_option linter.all false
set_option maxHeartbeats 2000000
namespace Nv.K61
open PySem PySem.Spec PyProof.Rows L2
/-! places are unlike -/
mutual
theorem mk_pre : ∀ (k : Kd) (pl q : List Str), q ∈ mk k pl → ∃ t, q = pl ++ t
  | .leaf _, pl, q, h => by unfold mk at h; cases h
  | .bag k, pl, q, h => by
    rw [mk_bag] at h
    rcases List.mem_cons.mp h with e | h
    · exact ⟨[], by rw [e, List.append_nil]⟩
    · obtain ⟨t, e⟩ := mk_pre k _ q h
      exact ⟨into :: t, by rw [e, List.append_assoc]; rfl⟩
  | .rcd rs, pl, q, h => by
    rw [mk_rcd] at h
    obtain ⟨n, t, _, e⟩ := mks_pre rs pl q h
    exact ⟨n :: t, e⟩
  | .cho rs, pl, q, h => by
    rw [mk_cho] at h
    obtain ⟨n, t, _, e⟩ := mks_pre rs pl q h
    exact ⟨n :: t, e⟩
theorem mks_pre : ∀ (rs : Ks) (pl q : List Str), q ∈ mks rs pl → ∃ n t, n ∈ names rs ∧ q = pl ++ (n :: t)
  | .nil, pl, q, h => by unfold mks at h; cases h
  | .cons n k r, pl, q, h => by
    rw [mks_cons] at h
    unfold names
    rcases List.mem_append.mp h with h | h
    · obtain ⟨t, e⟩ := mk_pre k _ q h
      exact ⟨n, t, .head _, by rw [e, List.append_assoc]; rfl⟩
    · obtain ⟨n', t, h1, e⟩ := mks_pre r pl q h
      exact ⟨n', t, .tail _ h1, e⟩
end
mutual
theorem mk_nd : ∀ (k : Kd) (pl : List Str), good k → (mk k pl).Nodup
  | .leaf _, pl, _ => by unfold mk; exact List.nodup_nil
  | .bag k, pl, h => by
    unfold good at h
    rw [mk_bag]
    refine List.nodup_cons.mpr ⟨fun hm => ?_, mk_nd k _ h⟩
    obtain ⟨t, e⟩ := mk_pre k _ _ hm
    have := congrArg List.length e
    simp at this
  | .rcd rs, pl, h => by
    unfold good at h
    rw [mk_rcd]
    exact mks_nd rs pl h.1 h.2
  | .cho rs, pl, h => by
    unfold good at h
    rw [mk_cho]
    exact mks_nd rs pl h.1 h.2.1
theorem mks_nd : ∀ (rs : Ks) (pl : List Str), goods rs → (names rs).Nodup → (mks rs pl).Nodup
  | .nil, pl, _, _ => by unfold mks; exact List.nodup_nil
  | .cons n k r, pl, h, hn => by
    unfold goods at h
    unfold names at hn
    obtain ⟨n1, n2⟩ := List.nodup_cons.mp hn
    rw [mks_cons]
    refine List.nodup_append.mpr ⟨mk_nd k _ h.2.1, mks_nd r pl h.2.2 n2, fun a ha b hb e => ?_⟩
    obtain ⟨t, e1⟩ := mk_pre k _ a ha
    obtain ⟨n', t', h1, e2⟩ := mks_pre r pl b hb
    rw [e1, e2, List.append_assoc] at e
    have := List.append_cancel_left e
    injection this with this
    rw [this] at n1
    exact n1 h1
end
/-! the texts in places -/
def lay (q : List Str) : Prop := ∀ x ∈ q, PyData.canLay0 (.str x) = true
theorem lab_lay : ∀ x ∈ labels, PyData.canLay0 (.str x) = true := by decide +kernel
theorem lay_add {q : List Str} {x : Str} (h : lay q) (hx : PyData.canLay0 (.str x) = true) : lay (q ++ [x]) := fun y hy => by
  rcases List.mem_append.mp hy with z | z
  · exact h y z
  · rw [List.mem_singleton.mp z]; exact hx
mutual
theorem mk_lay : ∀ (k : Kd) (pl : List Str), good k → lay pl → ∀ q ∈ mk k pl, lay q
  | .leaf _, pl, _, _, q, h => by unfold mk at h; cases h
  | .bag k, pl, hg, hl, q, h => by
    unfold good at hg
    rw [mk_bag] at h
    rcases List.mem_cons.mp h with e | h
    · rw [e]; exact hl
    · exact mk_lay k _ hg (lay_add hl (by decide +kernel)) q h
  | .rcd rs, pl, hg, hl, q, h => by
    unfold good at hg
    rw [mk_rcd] at h
    exact mks_lay rs pl hg.1 hl q h
  | .cho rs, pl, hg, hl, q, h => by
    unfold good at hg
    rw [mk_cho] at h
    exact mks_lay rs pl hg.1 hl q h
theorem mks_lay : ∀ (rs : Ks) (pl : List Str), goods rs → lay pl → ∀ q ∈ mks rs pl, lay q
  | .nil, pl, _, _, q, h => by unfold mks at h; cases h
  | .cons n k r, pl, hg, hl, q, h => by
    unfold goods at hg
    rw [mks_cons] at h
    rcases List.mem_append.mp h with h | h
    · exact mk_lay k _ hg.2.1 (lay_add hl (lab_lay n hg.1)) q h
    · exact mks_lay r pl hg.2.2 hl q h
end
def plP (q : List Str) : PyData := .tuple (q.map .str)
theorem py_strs (g : Nat → Option PyData) : ∀ q : List Str, pyWs g (q.map .str) = some (q.map .str)
  | [] => by unfold pyWs; rfl
  | x :: r => by rw [List.map_cons]; unfold pyWs; rw [py_strs g r]; unfold pyW; rfl
theorem py_pl (s : Sto) (q : List Str) : pyN s 2 (plD q) = some (plP q) := by
  unfold pyN plD
  unfold pyW
  rw [py_strs]; rfl
theorem py_pls (s : Sto) : ∀ ps : List (List Str), (ps.map plD).mapM (pyN s 2) = some (ps.map plP)
  | [] => rfl
  | p :: r => by
    rw [List.map_cons, List.mapM_cons, py_pl]
    show (do let ys ← (r.map plD).mapM (pyN s 2); pure (plP p :: ys) : Option (List PyData)) = _
    rw [py_pls s r]; rfl
theorem lay_all : ∀ q : List Str, lay q → PyData.canLayAll0 (q.map .str) = true
  | [], _ => rfl
  | x :: r, h => by
    rw [List.map_cons]
    unfold PyData.canLayAll0
    rw [h x (.head _), lay_all r fun y hy => h y (.tail _ hy)]; rfl
theorem lays_all : ∀ ps : List (List Str), (∀ q ∈ ps, lay q) → PyData.canLayAll0 (ps.map plP) = true
  | [], _ => rfl
  | q :: r, h => by
    rw [List.map_cons]
    unfold PyData.canLayAll0
    have : PyData.canLay0 (plP q) = true := by unfold plP PyData.canLay0; exact lay_all q (h q (.head _))
    rw [this, lays_all r fun y hy => h y (.tail _ hy)]; rfl
theorem dep_strs : ∀ q : List Str, PyData.depthAll (q.map .str) = 0
  | [] => rfl
  | x :: r => by
    rw [List.map_cons]
    unfold PyData.depthAll
    rw [dep_strs r]; rfl
theorem dep_pls : ∀ ps : List (List Str), PyData.depthAll (ps.map plP) ≤ 1
  | [] => Nat.zero_le _
  | q :: r => by
    rw [List.map_cons]
    unfold PyData.depthAll
    have : PyData.depth (plP q) = 1 := by unfold plP PyData.depth; rw [dep_strs]
    rw [this]
    exact Nat.max_le.mpr ⟨Nat.le_refl _, dep_pls r⟩
theorem eq_pls {s : Sto} {i j : Nat} {ps : List (List Str)} (hi : s[i]? = some (.lst (ps.map plD))) (hj : s[j]? = some (.lst (ps.map plD))) (hl : ∀ q ∈ ps, lay q) : eqR s (.d (.obj i)) (.d (.obj j)) = some true := by
  have key : ∀ k : Nat, s[k]? = some (.lst (ps.map plD)) → pyR s (.d (.obj k)) = some (.list (ps.map plP)) := fun k hk => by
    show (match s[k]? with | some (.lst xs) => (xs.mapM (pyN s 2)).map PyData.list | _ => none) = _
    rw [hk]
    show ((ps.map plD).mapM (pyN s 2)).map PyData.list = _
    rw [py_pls]; rfl
  have lay0 : PyData.canLay0 (.list (ps.map plP)) = true := by unfold PyData.canLay0; exact lays_all ps hl
  have sh : SeqAt.shaped (.list (ps.map plP)) = true := by
    unfold SeqAt.shaped
    rw [lay0, Bool.true_and]
    refine decide_eq_true ?_
    have := dep_pls ps
    unfold PyData.depth
    omega
  unfold eqR
  rw [key i hi, key j hj]
  show (if SeqAt.shaped (.list (ps.map plP)) = true ∧ SeqAt.shaped (.list (ps.map plP)) = true then some (PyData.eqv (.list (ps.map plP)) (.list (ps.map plP))) else none) = _
  rw [if_pos ⟨sh, sh⟩, SeqAt.eqv_refl _ lay0]
/-! how many places are unlike -/
def kpl (q : List Str) : NestedKey := .tup (q.map .text)
theorem key_strs : ∀ q : List Str, keysOf (q.map .str) = some (q.map .text)
  | [] => by unfold keysOf; rfl
  | x :: r => by rw [List.map_cons]; unfold keysOf keyOf; rw [key_strs r]; rfl
theorem key_pls : ∀ ps : List (List Str), keysOf (ps.map plD) = some (ps.map kpl)
  | [] => by unfold keysOf; rfl
  | q :: r => by
    rw [List.map_cons]
    unfold keysOf
    have : keyOf (plD q) = some (kpl q) := by unfold plD keyOf; rw [key_strs]; rfl
    rw [this, key_pls r]; rfl
theorem ktext : ∀ q : List Str, NestedKey.depthAll (q.map .text) = 0
  | [] => rfl
  | x :: r => by
    rw [List.map_cons]
    unfold NestedKey.depthAll
    rw [ktext r]; rfl
theorem kpl_ok (q : List Str) : tupK (kpl q) = true := by
  unfold kpl tupK
  refine decide_eq_true ?_
  unfold NestedKey.depth
  rw [ktext]
  decide
theorem kpl_inj {a b : List Str} (h : kpl a = kpl b) : a = b := by
  unfold kpl at h
  injection h with h
  exact (List.map_inj_right fun x y e => by injection e).mp h
theorem len_pls {s : Sto} {i : Nat} {ps : List (List Str)} (hi : s[i]? = some (.lst (ps.map plD))) (nd : ps.Nodup) (few : ps.length < 64) : fsR .lenset s (.d (.obj i)) = some (.d (.int ps.length)) := by
  unfold fsR
  rw [asL_obj, lstAt_of hi]
  show (if (ps.map plD).length < 64 then _ else none) = _
  rw [List.length_map, if_pos few]
  cases ps with
  | nil => rfl
  | cons q r =>
    show (match strsOf (plD q :: r.map plD) with
      | some ss => some (RD.d (.int (uniq ss).length))
      | none => (keysOf ((q :: r).map plD)).bind fun ks => if ks.all tupK = true then some (RD.d (.int (uniq ks).length)) else none) = _
    have e : strsOf (plD q :: r.map plD) = none := rfl
    rw [e, key_pls]
    show (if ((q :: r).map kpl).all tupK = true then some (RD.d (.int (uniq ((q :: r).map kpl)).length)) else none) = _
    have al : ((q :: r).map kpl).all tupK = true := by
      rw [List.all_eq_true]
      intro k hk
      obtain ⟨z, _, rfl⟩ := List.mem_map.mp hk
      exact kpl_ok z
    have nk : ((q :: r).map kpl).Nodup := List.pairwise_map.mpr (nd.imp fun h e => h (kpl_inj e))
    rw [if_pos al, uniq_id nk, List.length_map]
/-! the law -/
abbrev pa : List Str := ["a"]
theorem t_pot {m : Nat} {s : Sto} {c : Int} (hm : 1 ≤ m) (cl : Clo s) : ∃ a b, callN tab m 3 [.int c] s = .ok (.obj s.length) (s ++ [pot a b]) := by
  obtain ⟨n, rfl⟩ : ∃ n, m = n + 1 := ⟨m - 1, by omega⟩
  refine ⟨if 0 > c then 0 else c, (c * 48271 + 977).fmod 2147483647, ?_⟩
  rw [call_at (T := tab) (i := 3) (F := f_pot) rfl rfl]
  have c1 : CMul c 48271 := mul_const (by decide) (by decide)
  have hf := fin_new (g := [pot (if 0 > c then 0 else c) ((c * 48271 + 977).fmod 2147483647)]) (o := pot (if 0 > c then 0 else c) ((c * 48271 + 977).fmod 2147483647)) cl (Nat.le_refl _) mid_at rfl
  simp [f_pot, b_pot, c1]
  exact hf
abbrev lbody : Sm := (.cons (.set (.v 2) (.call 3 (.cons (.var 1) .nil))) (.cons
    (.set (.v 3) (.call 7 (.cons (.var 2) (.cons (.call 4 (.cons (.var 2) (.cons (.int 5) .nil))) .nil)))) (.cons
    (.set (.v 4) (.call 8 (.cons (.var 3) (.cons (.tup .nil) .nil)))) (.cons (.set (.v 5) (.call 1 (.cons (.var 3)
    .nil))) (.cons (.ifs (.or (.nt (.isin (.var 5) .list)) (.or (.cmp .ne (.var 5) (.var 4)) (.cmp .ne (.fs
    .lenset (.var 5)) (.b1 .len (.var 5))))) (.cons (.ret (.bl false)) .nil) .nil) (.cons (.ex (.m1 .append (.var
    5) (.tup (.cons (.str "a") .nil)))) (.cons (.ex (.m0 .reverse (.var 5))) (.cons (.ifs (.cmp .ne (.call 1
    (.cons (.var 3) .nil)) (.var 4)) (.cons (.ret (.bl false)) .nil) .nil) .nil))))))))
theorem one_turn {m : Nat} {s : Sto} {c : Int} {d0 : D} {o1 o2 o3 o4 o5 : Option D} (hm : 30 ≤ m) (cl : Clo s) : ∃ s' o2' o3' o4' o5', Clo s' ∧
    ∀ k : Fl → Loc → Sto → Res D, sk (callN tab m) tab.gc lbody [some d0, some (.int c), o2, o3, o4, o5] s k = k .nx [some d0, some (.int c), o2', o3', o4', o5'] s' := by
  obtain ⟨a, b, e1⟩ := t_pot (m := m) (c := c) (by omega) cl
  have hp : PotAt s.length (s ++ [pot a b]) := ⟨cl.push rfl, a, b, mid_at⟩
  obtain ⟨d, s2, d1, d2, pc2, e2⟩ := t_takeM (m := m) (k := 5) (by omega) hp (by decide) (by decide)
  obtain ⟨dn, rfl⟩ := Int.eq_ofNat_of_zero_le d1
  have hp2 := pc2.at_ hp
  obtain ⟨k, s3, g1, g2, g3, pc3, e3⟩ := t_kind dn m s.length s2 (by omega) (by omega) hp2
  have hp3 := pc3.at_ hp2
  have hdn : dn ≤ 4 := by omega
  have h16 : 2 ^ dn ≤ 16 := Nat.pow_le_pow_right (by decide) hdn
  have cl3 := hp3.clo
  have e4 := t_marked k m s3 [] (by omega) (by rw [List.length_nil]; omega) (by omega) g1 cl3
  have e0 : plD [] = .tup [] := rfl
  rw [e0] at e4
  have few : (mk k []).length < 64 := by rw [mk_len]; omega
  generalize hP : mk k [] = P at e4 few
  have nd : P.Nodup := by rw [← hP]; exact mk_nd k [] g1
  have ly : ∀ q ∈ P, lay q := by rw [← hP]; exact mk_lay k [] g1 (fun x hx => by cases hx)
  have cl4 : Clo (s3 ++ [.lst (P.map plD)]) := cl3.push (pls_lt _)
  have e5 := t_bags_of (k := k) (m := m) (by omega) (by omega) (by omega) g1 cl4
  rw [hP] at e5
  -- s5: the due places, those found
  generalize h4 : (s3 ++ [.lst (P.map plD)] : Sto) = s4 at e4 e5 cl4
  have l4 : s4.length = s3.length + 1 := by rw [← h4, List.length_append]; rfl
  have a4 : s4[s3.length]? = some (.lst (P.map plD)) := by rw [← h4]; exact mid_at
  have cl5 : Clo (s4 ++ [.lst (P.map plD)]) := cl4.push (pls_lt _)
  generalize h5 : (s4 ++ [.lst (P.map plD)] : Sto) = s5 at e5 cl5
  have l5 : s5.length = s4.length + 1 := by rw [← h5, List.length_append]; rfl
  have a5 : s5[s3.length]? = some (.lst (P.map plD)) := by rw [← h5, List.getElem?_append_left (by omega)]; exact a4
  have b5 : s5[s4.length]? = some (.lst (P.map plD)) := by rw [← h5]; exact mid_at
  have q1 : isinR s5 .list (.d (.obj s4.length)) = some true := by
    show (lstAt s5 s4.length).map _ = _
    rw [lstAt_of b5]; rfl
  have q2 := eq_pls b5 a5 ly
  have q3 := len_pls b5 nd few
  have q4 : b1R .len s5 (.d (.obj s4.length)) = some (.d (.int P.length)) := by
    show (asQ s5 (.d (.obj s4.length))).map _ = _
    rw [asQ_obj, lstAt_of b5]
    show some (RD.d (.int ((P.map plD).length : Nat))) = _
    rw [List.length_map]
  have q5 := app_ok (d := .tup [.str "a"]) b5 (by rw [List.length_map, sizeLine_eq]; omega)
  have hb : isLstB s5 (.obj s4.length) = true := isl_ok b5
  have lt5 : s4.length < s5.length := by omega
  generalize h6 : s5.set s4.length (.lst (P.map plD ++ [D.tup [D.str "a"]])) = s6 at q5
  have b6 : s6[s4.length]? = some (.lst (P.map plD ++ [D.tup [D.str "a"]])) := by rw [← h6]; exact List.getElem?_set_self lt5
  have a6 : s6[s3.length]? = some (.lst (P.map plD)) := by rw [← h6, List.getElem?_set_ne (by omega)]; exact a5
  have okl : ∀ n, D.ltAll n (P.map plD ++ [D.tup [D.str "a"]]) = true := fun n => by
    have : P.map plD ++ [D.tup [D.str "a"]] = (P ++ [pa]).map plD := by rw [List.map_append]; rfl
    rw [this]
    exact pls_lt _
  have cl6 : Clo s6 := by rw [← h6]; exact cl5.set (okl _)
  have q6 := rev_ok b6
  have lt6 : s4.length < s6.length := (List.getElem?_eq_some_iff.mp b6).1
  generalize h7 : s6.set s4.length (.lst (P.map plD ++ [D.tup [D.str "a"]]).reverse) = s7 at q6
  have a7 : s7[s3.length]? = some (.lst (P.map plD)) := by rw [← h7, List.getElem?_set_ne (by omega)]; exact a6
  have cl7 : Clo s7 := by
    rw [← h7]
    refine cl6.set ?_
    have : (P.map plD ++ [D.tup [D.str "a"]]).reverse = ((P ++ [pa]).reverse).map plD := by rw [List.map_reverse, List.map_append]; rfl
    rw [this]
    exact pls_lt _
  have e8 := t_bags_of (k := k) (m := m) (by omega) (by omega) (by omega) g1 cl7
  rw [hP] at e8
  have cl8 : Clo (s7 ++ [.lst (P.map plD)]) := cl7.push (pls_lt _)
  have lt7 : s3.length < s7.length := (List.getElem?_eq_some_iff.mp a7).1
  have q8 : eqR (s7 ++ [.lst (P.map plD)]) (.d (.obj s7.length)) (.d (.obj s3.length)) = some true := eq_pls mid_at (by rw [List.getElem?_append_left lt7]; exact a7) ly
  refine ⟨s7 ++ [.lst (P.map plD)], some (.obj s.length), some (kD k), some (.obj s3.length), some (.obj s4.length), cl8, fun k => ?_⟩
  simp [-List.append_assoc, -List.length_append, -isLst_of, lbody, callK_of e1, callK_of e2, callK_of e3, callK_of e4, callK_of e5, q1, q2, q3, q4, q5, hb, q6, callK_of e8, q8]
theorem turns {m : Nat} {d0 : D} (hm : 30 ≤ m) : ∀ (ds : List D) (s : Sto) (o1 o2 o3 o4 o5 : Option D), (∀ d ∈ ds, ∃ c, d = .int c) → Clo s → ∃ s' l', Clo s' ∧ ∀ k : Fl → Loc → Sto → Res D, forK (.v 1) none (sden (callN tab m) tab.gc lbody) ds [some d0, o1, o2, o3, o4, o5] s k = k .nx l' s'
  | [], s, o1, o2, o3, o4, o5, _, cl => ⟨s, _, cl, fun k => for_nil trivial⟩
  | d :: r, s, o1, o2, o3, o4, o5, h, cl => by
    obtain ⟨c, rfl⟩ := h d (.head _)
    obtain ⟨s1, p2, p3, p4, p5, cl1, e1⟩ := one_turn (m := m) (c := c) (d0 := d0) (o1 := o1) (o2 := o2) (o3 := o3) (o4 := o4) (o5 := o5) hm cl
    obtain ⟨s2, l2, cl2, e2⟩ := turns hm r s1 (some (.int c)) p2 p3 p4 p5 (fun z hz => h z (.tail _ hz)) cl1
    refine ⟨s2, l2, cl2, fun k => ?_⟩
    rw [for_cons (show srcOk none s from trivial), bt_v1, e1]
    exact e2 k
theorem holds (ns : List Int) (h : ns.length ≤ 63) : ∃ s, callN tab (199 + 1) 9 [.lf (ns.map D.int)] [] = .ok (.bl true) s := by
  rw [call_at (T := tab) (i := 9) (F := f_p_law) rfl rfl]
  obtain ⟨s', l', cl, e⟩ := turns (m := 199) (d0 := .lf (ns.map D.int)) (by decide) (cutD (ns.map D.int) none (some 15)) [] none none none none none (fun d hd => by
    have h1 := List.mem_of_mem_drop (List.mem_of_mem_take hd)
    obtain ⟨c, _, e⟩ := List.mem_map.mp h1
    exact ⟨c, e.symm⟩) rfl
  have hs : slR [] (.d (.lf (ns.map D.int))) none (some 15) = some (.l (cutD (ns.map D.int) none (some 15))) := rfl
  have hf : ∃ s, fin 0 (.bl true) s' = .ok (.bl true) s := by
    unfold fin
    have h0 : (s'.take 0).all (Ob.lt 0) = true := by rw [List.take_zero]; rfl
    rw [if_pos h0]
    exact ⟨_, rfl⟩
  obtain ⟨sf, hf⟩ := hf
  refine ⟨sf, ?_⟩
  simp [f_p_law, b_p_law, hs, e]
  exact hf
end Nv.K61

set_option Elab.async false
set_option linter.all false
set_option maxRecDepth 100000
set_option autoImplicit false
open PySem PySem.W PyProof.Rows
set_option maxHeartbeats 0 in
theorem PySem.Challenge.cw_nestviews_k61_places_of_bags_holds : PySem.Challenge.rw_nestviews_k61_places_of_bags.Holds := by
  w_on; o_law; k_head; (case hw => w_witness2)
  k_fill
  refine L2.walk_of (l := PySem.Challenge.rw_nestviews_k61_places_of_bags) (n := 63) (k := 200) (x := "_law_script") (CX := fun _ => L2.CX0) (sp := fun _ => Nv.spLaw _) rfl (by decide) rfl ⟨rfl, by decide, by decide⟩ (fun w h Y => PySem.W.kIn_of Y) ?F (fun _ _ a ns hl hO hS => ⟨a, ns, rfl, Nv.sqf_only hO hS, hl, fun _ => rfl⟩) (fun _ _ _ _ _ h => h)
  case F =>
    intro w mg fa h KX G hmg
    refine Nv.law_end (n := 199) (T := Nv.K61.tab) (i := 9) ?E rfl rfl rfl hmg Nv.K61.holds
    refine' Nv.K61.all_mk KX G ?nva0 ?nvl0 ?nvc0 ?nvk0 ?nva1 ?nvl1 ?nvc1 ?nvk1 ?nva2 ?nvl2 ?nvc2 ?nvk2 ?nva3 ?nvl3 ?nvc3 ?nvk3 ?nva4 ?nvl4 ?nvc4 ?nvk4 ?nva5 ?nvl5 ?nvc5 ?nvk5 ?nva6 ?nvl6 ?nvc6 ?nvk6 ?nva7 ?nvl7 ?nvc7 ?nvk7 ?nva8 ?nvl8 ?nvc8 ?nvk8 ?nva9 ?nvl9 ?nvc9 ?nvk9 ?nvz0 ?nvz1 ?nvz2 ?nvz3 ?nvz4 ?nvz5 ?nvz6 ?nvz7 ?nvz8 ?nvz9 ?nvg0
    (case nva0 => k_is); (case nvl0 => k_is); (case nvc0 => k_is); (case nvk0 => k_is); (case nva1 => k_is); (case nvl1 => k_is); (case nvc1 => k_is); (case nvk1 => k_is); (case nva2 => k_is); (case nvl2 => k_is); (case nvc2 => k_is); (case nvk2 => k_is); (case nva3 => k_is); (case nvl3 => k_is); (case nvc3 => k_is); (case nvk3 => k_is); (case nva4 => k_is); (case nvl4 => k_is); (case nvc4 => k_is); (case nvk4 => k_is); (case nva5 => k_is); (case nvl5 => k_is); (case nvc5 => k_is); (case nvk5 => k_is); (case nva6 => k_is); (case nvl6 => k_is); (case nvc6 => k_is); (case nvk6 => k_is); (case nva7 => k_is); (case nvl7 => k_is); (case nvc7 => k_is); (case nvk7 => k_is); (case nva8 => k_is); (case nvl8 => k_is); (case nvc8 => k_is); (case nvk8 => k_is); (case nva9 => k_is); (case nvl9 => k_is); (case nvc9 => k_is); (case nvk9 => k_is); (case nvz0 => k_is); (case nvz1 => k_is); (case nvz2 => k_is); (case nvz3 => k_is); (case nvz4 => k_is); (case nvz5 => k_is); (case nvz6 => k_is); (case nvz7 => k_is); (case nvz8 => k_is); (case nvz9 => k_is); (case nvg0 => k_is)

