import PyProof.Rows.All
import Wide.All
import OpenK.AllK
import Wide.FinOn
import HandS.ForMost
import HandS.IsInst
import HandS.TupAny
import HandS.Flow
import KE.KeyNested
import HandS.Wide
import HandS.Deep
import HandS.Style
import HandS.TupLe
import PyProof.P3In
import HandS.More
import HandS.Small
import HandS.Zip
import HandS.Rev
import HandS.ExcOwn
import HandS.ExcIs
import HandS.WordsExc
import HandS.TupSets
import HandS.SetTxt0
import KE.SortData
import KE.GoesMore
import KE.GoesEnum
import PyProof.Draws
import PyProof.EnumMake
import HandS.Codes
import PySem.Challenge.RW_nestviews_k21_questions_told_apart
set_option Elab.async false
set_option linter.all false
set_option maxRecDepth 100000
/-! NvDef: a small interpreter over plain data. -/
namespace Nv
open PySem L2

/-- plain data; obj: a place of the store -/
inductive D where
  | non | bl (b : Bool) | int (i : Int) | str (x : Str) | tup (xs : List D) | lf (xs : List D) | ld (ks vs : List D) | obj (i : Nat)
/-- what stands in the store: a list, a dict (lf, ld above: a list, a dict that never changes) -/
inductive Ob where
  | lst (xs : List D) | dct (kvs : List (D × D))
abbrev Loc := List (Option D)
abbrev Sto := List Ob
inductive Res (α : Type) where
  | ok (a : α) (s : Sto) | ex (x : D) (s : Sto) | no
def Res.bind {α β : Type} (r : Res α) (f : α → Sto → Res β) : Res β :=
  match r with
  | .ok a s => f a s
  | .ex x s => .ex x s
  | .no => .no
@[simp] theorem bind_ok {α β : Type} (a : α) (s : Sto) (f : α → Sto → Res β) : (Res.ok a s).bind f = f a s := rfl
@[simp] theorem bind_ex {α β : Type} (x : D) (s : Sto) (f : α → Sto → Res β) : (Res.ex x s : Res α).bind f = .ex x s := rfl
@[simp] theorem bind_no {α β : Type} (f : α → Sto → Res β) : (Res.no : Res α).bind f = .no := rfl
abbrev M (α : Type) := Loc → Sto → Res α
def ofO {α : Type} (o : Option α) (s : Sto) : Res α :=
  match o with
  | some a => .ok a s
  | none => .no
@[simp] theorem ofO_some {α : Type} (a : α) (s : Sto) : ofO (some a) s = .ok a s := rfl
@[simp] theorem ofO_none {α : Type} (s : Sto) : ofO (none : Option α) s = .no := rfl

/-- a result that isn't in the store yet: a value, a fresh list, a fresh dict -/
inductive RD where
  | d (x : D) | l (xs : List D) | m (kvs : List (D × D))
/-- what is walked: the items, and the list's place where it may change -/
structure Its where
  ds : List D
  src : Option (Nat × List D)

/-! ### values -/
mutual
def pyW (g : Nat → Option PyData) : D → Option PyData
  | .non => some .none
  | .bl b => some (.bool b)
  | .int i => some (.int i)
  | .str x => some (.str x)
  | .tup xs => (pyWs g xs).map .tuple
  | .lf xs => (pyWs g xs).map .list
  | .ld _ _ => none
  | .obj i => g i
def pyWs (g : Nat → Option PyData) : List D → Option (List PyData)
  | [] => some []
  | x :: r => (pyW g x).bind fun p => (pyWs g r).map (p :: ·)
end
def pyN (s : Sto) : Nat → D → Option PyData
  | 0, x => pyW (fun _ => none) x
  | n + 1, x => pyW (fun i => match s[i]? with
      | some (.lst xs) => (xs.mapM (pyN s n)).map .list
      | _ => none) x
def pyR (s : Sto) : RD → Option PyData
  | .d x => pyN s 3 x
  | .l xs => (xs.mapM (pyN s 2)).map .list
  | .m _ => none
/-- a tuple of anything against () -/
def eqE : RD → RD → Option Bool
  | .d (.tup xs), .d (.tup []) => some xs.isEmpty
  | _, _ => none
def eqR (s : Sto) (a b : RD) : Option Bool :=
  match pyR s a, pyR s b with
  | some x, some y => if SeqAt.shaped x = true ∧ SeqAt.shaped y = true then some (PyData.eqv x y) else eqE a b
  | _, _ => eqE a b
/-! dicts -/
mutual
def keyOf : D → Option NestedKey
  | .non => some .none
  | .bl b => some (.num (if b = true then 1 else 0))
  | .int i => some (.num i)
  | .str x => some (.text x)
  | .tup xs => (keysOf xs).map .tup
  | .lf _ => none
  | .ld _ _ => none
  | .obj _ => none
def keysOf : List D → Option (List NestedKey)
  | [] => some []
  | x :: r => (keyOf x).bind fun k => (keysOf r).map (k :: ·)
end
def tupK : NestedKey → Bool
  | .tup ks => decide (NestedKey.depth (.tup ks) ≤ 8)
  | _ => false
def keyK : D → Option Key
  | .int i => some (.inl i)
  | .str x => some (.inr x)
  | _ => none
def keyD : Key → D
  | .inl i => .int i
  | .inr x => .str x
def dlk (kvs : List (D × D)) (k : Key) : Option D := (kvs.find? fun p => decide (keyK p.1 = some k)).map (·.2)
def dput (kvs : List (D × D)) (k : Key) (v : D) : List (D × D) := if (kvs.any fun p => decide (keyK p.1 = some k)) = true then kvs.map fun p => if keyK p.1 = some k then (p.1, v) else p else kvs ++ [(keyD k, v)]
/-- all keys are texts or whole numbers -/
def dK (kvs : List (D × D)) : Bool := kvs.all fun p => (keyK p.1).isSome
/-- there are keys, and all are tuples -/
def keyN (d : D) : Option NestedKey := (keyOf d).bind fun k => if tupK k = true then some k else none
def dN (kvs : List (D × D)) : Bool := !kvs.isEmpty && kvs.all fun p => (keyN p.1).isSome
def anyD (s : Sto) : RD → Option (List (D × D))
  | .m kvs => some kvs
  | .d (.ld ks vs) => if ks.length = vs.length then some (ks.zip vs) else none
  | .d (.obj i) => match s[i]? with
    | some (.dct kvs) => some kvs
    | _ => none
  | _ => none
def dctAt (s : Sto) (a : RD) : Option (List (D × D)) := (anyD s a).bind fun kvs => if dK kvs = true then some kvs else none
def keyR : RD → Option Key
  | .d x => keyK x
  | _ => none
def lstAt (s : Sto) (i : Nat) : Option (List D) :=
  match s[i]? with
  | some (.lst xs) => some xs
  | _ => none
/-- a list's items -/
def asL (s : Sto) : RD → Option (List D)
  | .l xs => some xs
  | .d (.lf xs) => some xs
  | .d (.obj i) => lstAt s i
  | _ => none
/-- .. of a list that may change -/
def asM (s : Sto) : RD → Option (List D)
  | .l xs => some xs
  | .d (.obj i) => lstAt s i
  | _ => none
/-- a list's or tuple's items -/
def asQ (s : Sto) : RD → Option (List D)
  | .l xs => some xs
  | .d (.lf xs) => some xs
  | .d (.obj i) => lstAt s i
  | .d (.tup xs) => some xs
  | _ => none
def truthR (s : Sto) : RD → Option Bool
  | .l xs => some (!xs.isEmpty)
  | .d .non => some false
  | .d (.bl b) => some b
  | .d (.int i) => some (i != 0)
  | .d (.str x) => if x.length ≤ sizeLine then some ((x.length : Int) != 0) else none
  | .d (.tup xs) => some (!xs.isEmpty)
  | .d (.lf xs) => some (!xs.isEmpty)
  | .m kvs => if dK kvs = true then some (!kvs.isEmpty) else none
  | .d (.ld _ _) => none
  | .d (.obj i) => match dctAt s (.d (.obj i)) with
    | some kvs => some (!kvs.isEmpty)
    | none => (lstAt s i).map fun xs => !xs.isEmpty
def signsD (x : Str) : List D := x.cps.toList.map fun c => .str ⟨#[c]⟩
def itsR (s : Sto) : RD → Option Its
  | .l xs => some ⟨xs, none⟩
  | .d (.tup xs) => some ⟨xs, none⟩
  | .d (.lf xs) => some ⟨xs, none⟩
  | .d (.ld ks _) => some ⟨ks, none⟩
  | .d (.str x) => some ⟨signsD x, none⟩
  | .d (.obj i) => match s[i]? with
    | some (.lst xs) => some ⟨xs, some (i, xs)⟩
    | _ => none
  | _ => none

/-! ### operators -/
inductive Bop where
  | add | sub | mul | fdiv | mod | pow
  deriving DecidableEq
def Bop.op : Bop → Operator
  | .add => .Add | .sub => .Sub | .mul => .Mult | .fdiv => .FloorDiv | .mod => .Mod | .pow => .Pow
def catR (xs ys : List D) (k : List D → RD) : Option RD := if xs.length + ys.length ≤ sizeLine then some (k (xs ++ ys)) else none
open Classical in
noncomputable def binI (o : Bop) (i j : Int) : Option Int :=
  match o with
  | .add => some (i + j)
  | .sub => some (i - j)
  | .mul => if CMul i j then some (i * j) else none
  | .fdiv => if CDivN i j ∨ CDivW i j then some (i.fdiv j) else none
  | .mod => if j ≠ 0 then some (i.fmod j) else none
  | .pow => if CPow i j then some (i ^ j.toNat) else none
noncomputable def binR (o : Bop) (s : Sto) (a b : RD) : Option RD :=
  match a, b with
  | .d (.int i), .d (.int j) => (binI o i j).map fun k => .d (.int k)
  | .d (.str x), .d (.str y) => if o = .add ∧ x.length + y.length ≤ sizeLine then some (.d (.str (x ++ y))) else none
  | .d (.tup xs), .d (.tup ys) => if o = .add then catR xs ys fun zs => .d (.tup zs) else none
  | a, b => match asL s a, asL s b with
    | some xs, some ys => if o = .add then catR xs ys .l else none
    | _, _ => none
inductive Cop where
  | eq | ne | lt | le | gt | ge | is | isn | inn | nin
  deriving DecidableEq
def Cop.op : Cop → CmpOp
  | .eq => .Eq | .ne => .NotEq | .lt => .Lt | .le => .LtE | .gt => .Gt | .ge => .GtE | .is => .Is | .isn => .IsNot | .inn => .In | .nin => .NotIn
def strIn (x y : Str) : Bool := !(Builtin.Str.occurrences y x 0 y.length 1).isEmpty
def inR (s : Sto) (a b : RD) : Option Bool :=
  match a, b with
  | .d (.str x), .d (.str y) => some (strIn x y)
  | a, b => match (asQ s b).bind fun ys => ys.mapM (pyN s 2), pyR s a with
    | some qs, some x => if SeqAt.shaped x = true ∧ SeqAt.shaped (.list qs) = true then some (qs.any fun z => PyData.eqv z x) else none
    | _, _ => none
def hasR (s : Sto) (a b : RD) : Option Bool :=
  match dctAt s b with
  | some kvs => (keyR a).map fun k => (dlk kvs k).isSome
  | none => inR s a b
def ltR (a b : RD) : Option Bool :=
  match a, b with
  | .d (.int i), .d (.int j) => some (decide (i < j))
  | .d (.str x), .d (.str y) => some (decide (x.cps.toList < y.cps.toList))
  | _, _ => none
def leR (a b : RD) : Option Bool :=
  match a, b with
  | .d (.int i), .d (.int j) => some (decide (i ≤ j))
  | .d (.str x), .d (.str y) => some (!decide (y.cps.toList < x.cps.toList))
  | _, _ => none
def isR (a b : RD) : Option Bool :=
  match a, b with
  | .d x, .d .non => some (match x with | .non => true | _ => false)
  | .l _, .d .non => some false
  | .d (.bl x), .d (.bl y) => some (decide (x = y))
  | _, _ => none
def cmpR (o : Cop) (s : Sto) (a b : RD) : Option Bool :=
  match o with
  | .eq => eqR s a b
  | .ne => (eqR s a b).map (!·)
  | .lt => ltR a b
  | .gt => ltR b a
  | .le => leR a b
  | .ge => leR b a
  | .is => isR a b
  | .isn => (isR a b).map (!·)
  | .inn => hasR s a b
  | .nin => (hasR s a b).map (!·)

/-! ### built-ins -/
inductive Ty where
  | str | int | bool | tuple | list | dict
  deriving DecidableEq
def Ty.name : Ty → String
  | .str => "str" | .int => "int" | .bool => "bool" | .tuple => "tuple" | .list => "list" | .dict => "dict"
def isinR (s : Sto) (t : Ty) : RD → Option Bool
  | .l _ => some (t = .list)
  | .d .non => some false
  | .d (.bl _) => some (t = .bool ∨ t = .int)
  | .d (.int _) => some (t = .int)
  | .d (.str _) => some (t = .str)
  | .d (.tup _) => some (t = .tuple)
  | .d (.lf _) => some (t = .list)
  | .m kvs => if dK kvs = true then some (decide (t = .dict)) else none
  | .d (.ld _ _) => some (decide (t = .dict))
  | .d (.obj i) => match dctAt s (.d (.obj i)) with
    | some _ => some (decide (t = .dict))
    | none => (lstAt s i).map fun _ => decide (t = .list)
inductive B1 where
  | len | tuple | list | all | any | sum | int | abs | sorted
  deriving DecidableEq
def B1.name : B1 → String
  | .len => "len" | .tuple => "tuple" | .list => "list" | .all => "all" | .any => "any" | .sum => "sum" | .int => "int" | .abs => "abs" | .sorted => "sorted"
def blsOf : List D → Option (List Bool)
  | [] => some []
  | .bl b :: r => (blsOf r).map (b :: ·)
  | _ :: _ => none
def intsOf : List D → Option (List Int)
  | [] => some []
  | .int b :: r => (intsOf r).map (b :: ·)
  | _ :: _ => none
/-! sets that are asked at once -/
def uniq {α : Type} [DecidableEq α] : List α → List α
  | [] => []
  | x :: r => if x ∈ r then uniq r else x :: uniq r
def strsOf : List D → Option (List Str)
  | [] => some []
  | .str x :: r => (strsOf r).map (x :: ·)
  | _ :: _ => none
def leS (a b : Str) : Bool := decide (a.cps.toList ≤ b.cps.toList)
def b1R (f : B1) (s : Sto) (a : RD) : Option RD :=
  match f with
  | .len => match a with
    | .d (.str x) => if x.length ≤ sizeLine then some (.d (.int x.length)) else none
    | a => match dctAt s a with
      | some kvs => some (.d (.int kvs.length))
      | none => (asQ s a).map fun xs => .d (.int xs.length)
  | .tuple => (asQ s a).map fun xs => .d (.tup xs)
  | .list => (asQ s a).map .l
  | .all => ((asL s a).bind blsOf).map fun bs => .d (.bl (bs.all id))
  | .any => ((asL s a).bind blsOf).map fun bs => .d (.bl (bs.any id))
  | .sum => ((asL s a).bind intsOf).map fun bs => .d (.int bs.sum)
  | .int => match a with
    | .d (.int i) => some (.d (.int i))
    | .d (.bl b) => some (.d (.int (if b then 1 else 0)))
    | _ => none
  | .abs => match a with
    | .d (.int i) => some (.d (.int (if i < 0 then -i else i)))
    | _ => none
  | .sorted => match dctAt s a with
    | some kvs => (strsOf (kvs.map (·.1))).bind fun ss => if ss.length < 64 then some (.l ((ss.mergeSort leS).map .str)) else none
    | none => ((asL s a).bind strsOf).bind fun ss => if ss.length < 64 then some (.l ((ss.mergeSort leS).map .str)) else none
inductive FS where
  | sortset | lenset
  deriving DecidableEq
def FS.name : FS → String
  | .sortset => "sorted" | .lenset => "len"
def fsR (f : FS) (s : Sto) (x : RD) : Option RD :=
  (asL s x).bind fun ds => if ds.length < 64 then match f with
    | .sortset => (strsOf ds).map fun ss => .l (((uniq ss).mergeSort leS).map .str)
    | .lenset => match strsOf ds with
      | some ss => some (.d (.int (uniq ss).length))
      | none => (keysOf ds).bind fun ks => if ks.all tupK = true then some (.d (.int (uniq ks).length)) else none
    else none
def small62 (i : Int) : Prop := -(2 ^ 62) ≤ i ∧ i < 2 ^ 62
instance (i : Int) : Decidable (small62 i) := by unfold small62; infer_instance
def upTo (lo : Int) : Nat → List D
  | 0 => []
  | n + 1 => .int lo :: upTo (lo + 1) n
/-- lo, lo + c, .. -/
def stepsOf (lo c : Int) : Nat → List D
  | 0 => []
  | n + 1 => .int lo :: stepsOf (lo + c) c n
def rng3R (a b c : RD) : Option Its :=
  match a, b, c with
  | .d (.int i), .d (.int j), .d (.int k) => if k ≠ 0 ∧ k.natAbs < 1073741824 ∧ Builtin.Range.small i j k = true then some ⟨stepsOf i k (Builtin.Range.rangeSize i j k).toNat, none⟩ else none
  | _, _, _ => none
/-- things that are only walked -/
inductive I1 where
  | range | reversed | enumerate
  deriving DecidableEq
def I1.name : I1 → String
  | .range => "range" | .reversed => "reversed" | .enumerate => "enumerate"
def numbered : Nat → List D → List D
  | _, [] => []
  | k, x :: r => .tup [.int k, x] :: numbered (k + 1) r
/-- a list's place where it may change -/
def srcR (s : Sto) : RD → Option (Nat × List D)
  | .d (.obj i) => (lstAt s i).map fun xs => (i, xs)
  | _ => none
def i1R (f : I1) (s : Sto) (a : RD) : Option Its :=
  match f with
  | .range => match a with
    | .d (.int j) => if small62 j then some ⟨upTo 0 j.toNat, none⟩ else none
    | _ => none
  | .reversed => (asQ s a).map fun xs => ⟨xs.reverse, srcR s a⟩
  | .enumerate => match a with
    | .d (.tup xs) => some ⟨numbered 0 xs, none⟩
    | a => (asL s a).map fun xs => ⟨numbered 0 xs, srcR s a⟩
inductive B2 where
  | max | min
  deriving DecidableEq
def B2.name : B2 → String
  | .max => "max" | .min => "min"
def b2R (f : B2) (s : Sto) (a b : RD) : Option RD :=
  match f, a, b with
  | .max, .d (.int i), .d (.int j) => some (.d (.int (if j > i then j else i)))
  | .min, .d (.int i), .d (.int j) => some (.d (.int (if j < i then j else i)))
  | _, _, _ => none
inductive I2 where
  | range | zip
  deriving DecidableEq
def I2.name : I2 → String
  | .range => "range" | .zip => "zip"
def zipD : List D → List D → List D
  | x :: r, y :: q => .tup [x, y] :: zipD r q
  | _, _ => []
def i2R (f : I2) (s : Sto) (a b : RD) : Option Its :=
  match f with
  | .range => match a, b with
    | .d (.int i), .d (.int j) => if small62 i ∧ small62 j then some ⟨upTo i (j - i).toNat, none⟩ else none
    | _, _ => none
  | .zip => match asQ s a, asQ s b, srcR s a, srcR s b with
    | some xs, some ys, none, q => some ⟨zipD xs ys, q⟩
    | some xs, some ys, some q, none => some ⟨zipD xs ys, some q⟩
    | _, _, _, _ => none
def ixR0 (s : Sto) (a b : RD) : Option RD :=
  match b with
  | .d (.int i) => match a with
    | .d (.str x) => if x.length ≤ sizeLine then (atI x.cps.toList i).map fun c => .d (.str ⟨#[c]⟩) else none
    | a => (asQ s a).bind fun xs => (atI xs i).map .d
  | _ => none
def ixR (s : Sto) (a b : RD) : Option RD :=
  match dctAt s a with
  | some kvs => (keyR b).bind fun k => (dlk kvs k).map .d
  | none => ixR0 s a b
def cutD (xs : List D) (lo hi : Option Int) : List D := (xs.drop (HT.sIx xs.length 0 lo)).take (HT.sIx xs.length xs.length hi - HT.sIx xs.length 0 lo)
def slR (s : Sto) (a : RD) (lo hi : Option Int) : Option RD :=
  match a with
  | .d (.str x) => if x.length ≤ sizeLine then some (.d (.str (cutS x lo hi))) else none
  | .d (.tup xs) => some (.d (.tup (cutD xs lo hi)))
  | a => (asL s a).map fun xs => .l (cutD xs lo hi)
/-- d.get(k, x) -/
def getR (s : Sto) (o k x : RD) : Option RD :=
  match dctAt s o, keyR k, x with
  | some kvs, some k, .d z => some (.d ((dlk kvs k).getD z))
  | _, _, _ => none
/-- methods of built-in things -/
inductive M1 where
  | append | extend
  deriving DecidableEq
def M1.name : M1 → String
  | .append => "append" | .extend => "extend"
def m1R (m : M1) (o : D) (a : RD) (s : Sto) : Res RD :=
  match o with
  | .obj i => match m, s[i]?, a with
    | .append, some (.lst xs), .d x => if xs.length < sizeLine then .ok (.d .non) (s.set i (.lst (xs ++ [x]))) else .no
    | .extend, some (.lst xs), a => match asM s a with
      | some ys => if xs.length + ys.length ≤ sizeLine then .ok (.d .non) (s.set i (.lst (xs ++ ys))) else .no
      | none => .no
    | _, _, _ => .no
  | _ => .no
inductive M0 where
  | reverse | clear | pop
  deriving DecidableEq
def M0.name : M0 → String
  | .reverse => "reverse" | .clear => "clear" | .pop => "pop"
def m0R (m : M0) (o : D) (s : Sto) : Res RD :=
  match o with
  | .obj i => match m, s[i]? with
    | .reverse, some (.lst xs) => .ok (.d .non) (s.set i (.lst xs.reverse))
    | .clear, some (.lst xs) => .ok (.d .non) (s.set i (.lst []))
    | .pop, some (.lst xs) => match xs[xs.length - 1]? with
      | some y => .ok (.d y) (s.set i (.lst xs.dropLast))
      | none => .no
    | _, _ => .no
  | _ => .no

def isLstB (s : Sto) : D → Bool
  | .obj i => (lstAt s i).isSome
  | _ => false
/-! ### the language -/
inductive Tg where
  | v (i : Nat) | n | c (a b : Tg)
inductive Ex where
  | nil | cons (a b : Ex)
  | var (i : Nat) | int (z : Int) | str (x : Str) | bl (b : Bool) | non
  | gc (j : Nat)
  | tup (es : Ex) | lst (es : Ex)
  | bin (o : Bop) (a b : Ex) | neg (a : Ex) | nt (a : Ex)
  | cmp (o : Cop) (a b : Ex) | cmp2 (o o' : Cop) (a b c : Ex) | kin (j : Nat) (kvs : List (Str × Int)) (a : Ex) | kix (j : Nat) (kvs : List (Str × Int)) (a : Ex)
  | and (a b : Ex) | or (a b : Ex) | ife (c a b : Ex)
  | call (f : Nat) (es : Ex)
  | b1 (f : B1) (a : Ex) | b2 (f : B2) (a b : Ex) | i1 (f : I1) (a : Ex) | i2 (f : I2) (a b : Ex) | isin (a : Ex) (t : Ty) | fs (f : FS) (a : Ex) | dnew | dget (o k x : Ex) | any | rng3 (a b c : Ex) | frz (a : Ex)
  | m0 (m : M0) (o : Ex) | m1 (m : M1) (o a : Ex)
  | ix (a b : Ex) | sl (a lo hi : Ex)
  | cp (elt : Ex) (tg : Tg) (it : Ex) (c : Ex) (own : List Nat)
/-- a walk that only a tuple of targets takes -/
def Ex.tupIt : Ex → Bool
  | .i1 .enumerate _ => true
  | .i2 .zip _ _ => true
  | _ => false
def Ex.isNil : Ex → Bool
  | .nil => true
  | _ => false
/-- what stands in an except suite: truths, given to names -/
inductive Hx where
  | bl (b : Bool) | isx (many : Bool) (ts : List Str) (b : Bool) | and (a c : Hx) | or (a c : Hx) | nt (a : Hx)
def Hx.run : Hx → Bool
  | .bl b => b
  | .isx _ _ b => b
  | .and a c => a.run && c.run
  | .or a c => a.run || c.run
  | .nt a => !a.run
inductive Hs where
  | nil | set (j : Nat) (x : Hx) (r : Hs) | ifs (x : Hx) (a r : Hs)
def Hs.run : Hs → Loc → Loc
  | .nil, l => l
  | .set j x r, l => r.run (l.set j (some (.bl x.run)))
  | .ifs x a r, l => r.run (if x.run = true then a.run l else l)
inductive Sm where
  | nil | cons (a b : Sm)
  | ex (e : Ex) | set (tg : Tg) (e : Ex) | setI (o i e : Ex) | aug (i : Nat) (o : Bop) (e : Ex)
  | ret (e : Ex) | retN | ifs (c : Ex) (a b : Sm) | for_ (tg : Tg) (it : Ex) (b : Sm) | wh (c : Ex) (b : Sm)
  | brk | cnt | pass | any | setSl (o lo hi e : Ex)
  | raise (n : Str) | try_ (b : Sm) (cls : Str) (i : Nat) (n : Str) (h : Hs)

mutual
/-- an assignment to a target -/
def bindT : Tg → D → Loc → Option Loc
  | .v i, d, l => if i < l.length then some (l.set i (some d)) else none
  | t, .tup ds, l => bindTs t ds l
  | _, _, _ => none
def bindTs : Tg → List D → Loc → Option Loc
  | .n, [], l => some l
  | .c a b, d :: ds, l => (bindT a d l).bind (bindTs b ds)
  | _, _, _ => none
end

def allocR (r : Res RD) : Res D := r.bind fun a s => match a with
  | .d x => .ok x s
  | .l xs => .ok (.obj s.length) (s ++ [.lst xs])
  | .m kvs => .ok (.obj s.length) (s ++ [.dct kvs])

structure Den where
  r : M RD
  b : M Bool
  i : M Its
  vs : M (List D)
def Den.v (a : Den) : M D := fun l s => allocR (a.r l s)
def noM {α : Type} : M α := fun _ _ => .no
/-- an expression by its result: its truth, its walk by that -/
def mkR (m : M RD) : Den where
  r := m
  b := fun l s => (m l s).bind fun a s1 => ofO (truthR s1 a) s1
  i := fun l s => (m l s).bind fun a s1 => ofO (itsR s1 a) s1
  vs := noM
def mkI (m : M Its) : Den := ⟨noM, noM, m, noM⟩
/-- .. that is no test -/
def mkQ (m : M RD) : Den where
  r := m
  b := noM
  i := fun l s => (m l s).bind fun a s1 => ofO (itsR s1 a) s1
  vs := noM
/-- an expression by a truth -/
def mkB (r : M RD) (b : M Bool) : Den := ⟨r, b, noM, noM⟩

def srcOk (src : Option (Nat × List D)) (s : Sto) : Prop :=
  match src with
  | none => True
  | some (i, xs) => s[i]? = some (.lst xs)
def wipeL (l : Loc) : List Nat → Loc
  | [] => l
  | v :: vs => (wipeL l vs).set v none
/-- a run that raises nothing -/
def noX {α : Type} (r : Res α) : Res α := match r with
  | .ex _ _ => .no
  | r => r
open Classical in
/-- the turns of a comprehension -/
noncomputable def cpLoop (tg : Tg) (src : Option (Nat × List D)) (c : M Bool) (e : M D) (l : Loc) : List D → List D → Sto → Res (List D)
  | [], acc, s => if srcOk src s then .ok acc s else .no
  | x :: xs, acc, s => if srcOk src s then (match bindT tg x l with
    | none => .no
    | some l1 => (noX (c l1 s)).bind fun t s1 =>
      if t = true then (noX (e l1 s1)).bind fun y s2 =>
        if acc.length < sizeLine then cpLoop tg src c e l xs (acc ++ [y]) s2 else .no
      else cpLoop tg src c e l xs acc s1) else .no

/-- a fresh list that will never change -/
def frzR : RD → RD
  | .d x => .d x
  | .l xs => .d (.lf xs)
  | .m kvs => if dK kvs = true then .d (.ld (kvs.map (·.1)) (kvs.map (·.2))) else .m kvs
/-- x in D, D[x] of a dict of the top with texts, to whole numbers -/
def kinR (kvs : List (Str × Int)) : RD → Option Bool
  | .d (.str z) => some (kvs.lookup z).isSome
  | _ => none
def kixR (kvs : List (Str × Int)) : RD → Option RD
  | .d (.str z) => (kvs.lookup z).map fun i => .d (.int i)
  | _ => none
/-- a slice's part -/
def optI (skip : Bool) (m : M RD) : M (Option Int) := fun l s =>
  if skip = true then .ok none s else (m l s).bind fun y s2 => match y with
    | .d (.int i) => .ok (some i) s2
    | _ => .no
noncomputable def den (cf : Nat → List D → Sto → Res RD) (gc : Nat → Option D) : Ex → Den
  | .nil => ⟨noM, fun l s => .ok true s, noM, fun l s => .ok [] s⟩
  | .cons a b => ⟨noM, noM, noM, fun l s => ((den cf gc a).v l s).bind fun x s1 => ((den cf gc b).vs l s1).bind fun xs s2 => .ok (x :: xs) s2⟩
  | .var i => mkR fun l s => match l[i]? with
    | some (some d) => .ok (.d d) s
    | _ => .no
  | .int z => mkR fun _ s => .ok (.d (.int z)) s
  | .str x => mkR fun _ s => .ok (.d (.str x)) s
  | .bl b => mkR fun _ s => .ok (.d (.bl b)) s
  | .non => mkR fun _ s => .ok (.d .non) s
  | .gc j => mkR fun _ s => ofO ((gc j).map .d) s
  | .tup es => mkR fun l s => ((den cf gc es).vs l s).bind fun xs s1 => if xs.length ≤ sizeLine then .ok (.d (.tup xs)) s1 else .no
  | .lst es => mkR fun l s => ((den cf gc es).vs l s).bind fun xs s1 => if xs.length ≤ sizeLine then .ok (.l xs) s1 else .no
  | .bin o a b => mkR fun l s => ((den cf gc a).r l s).bind fun x s1 => ((den cf gc b).r l s1).bind fun y s2 => ofO (binR o s2 x y) s2
  | .neg a => mkR fun l s => ((den cf gc a).r l s).bind fun x s1 => match x with
    | .d (.int i) => .ok (.d (.int (-i))) s1
    | _ => .no
  | .nt a => mkB (fun l s => ((den cf gc a).r l s).bind fun x s1 => match x with
    | .d (.bl b) => .ok (.d (.bl (!b))) s1
    | _ => .no) fun l s => ((den cf gc a).b l s).bind fun t s1 => .ok (!t) s1
  | .cmp o a b => mkB (fun l s => ((den cf gc a).r l s).bind fun x s1 => ((den cf gc b).r l s1).bind fun y s2 => ofO ((cmpR o s2 x y).map fun t => .d (.bl t)) s2)
    fun l s => ((den cf gc a).r l s).bind fun x s1 => ((den cf gc b).r l s1).bind fun y s2 => ofO (cmpR o s2 x y) s2
  | .cmp2 o o' a b c => mkB (fun l s => ((den cf gc a).r l s).bind fun x s1 => ((den cf gc b).r l s1).bind fun y s2 => (ofO (cmpR o s2 x y) s2).bind fun t s2 => if t = true then ((den cf gc c).r l s2).bind fun z s3 => ofO ((cmpR o' s3 y z).map fun t => .d (.bl t)) s3 else .ok (.d (.bl false)) s2)
    fun l s => ((den cf gc a).r l s).bind fun x s1 => ((den cf gc b).r l s1).bind fun y s2 => (ofO (cmpR o s2 x y) s2).bind fun t s2 => if t = true then ((den cf gc c).r l s2).bind fun z s3 => ofO (cmpR o' s3 y z) s3 else .ok false s2
  | .kin _ kvs a => mkB (fun l s => ((den cf gc a).r l s).bind fun x s1 => ofO ((kinR kvs x).map fun t => .d (.bl t)) s1) fun l s => ((den cf gc a).r l s).bind fun x s1 => ofO (kinR kvs x) s1
  | .kix _ kvs a => mkR fun l s => ((den cf gc a).r l s).bind fun x s1 => ofO (kixR kvs x) s1
  | .and a b => mkB (fun l s => ((den cf gc a).r l s).bind fun x s1 => match x with
    | .d (.bl true) => (den cf gc b).r l s1
    | .d (.bl false) => .ok (.d (.bl false)) s1
    | _ => .no) fun l s => ((den cf gc a).b l s).bind fun t s1 => if t = true then (den cf gc b).b l s1 else .ok false s1
  | .or a b => mkB (fun l s => ((den cf gc a).r l s).bind fun x s1 => match x with
    | .d (.bl false) => (den cf gc b).r l s1
    | .d (.bl true) => .ok (.d (.bl true)) s1
    | _ => .no) fun l s => ((den cf gc a).b l s).bind fun t s1 => if t = true then .ok true s1 else (den cf gc b).b l s1
  | .ife c a b => mkQ fun l s => ((den cf gc c).b l s).bind fun t s1 => if t = true then (den cf gc a).r l s1 else (den cf gc b).r l s1
  | .call f es => mkR fun l s => ((den cf gc es).vs l s).bind fun ds s1 => cf f ds s1
  | .b1 f a => mkR fun l s => ((den cf gc a).r l s).bind fun x s1 => ofO (b1R f s1 x) s1
  | .b2 f a b => mkR fun l s => ((den cf gc a).r l s).bind fun x s1 => ((den cf gc b).r l s1).bind fun y s2 => ofO (b2R f s2 x y) s2
  | .i1 f a => mkI fun l s => ((den cf gc a).r l s).bind fun x s1 => ofO (i1R f s1 x) s1
  | .i2 f a b => mkI fun l s => ((den cf gc a).r l s).bind fun x s1 => ((den cf gc b).r l s1).bind fun y s2 => ofO (i2R f s2 x y) s2
  | .isin a t => mkR fun l s => ((den cf gc a).r l s).bind fun x s1 => ofO ((isinR s1 t x).map fun b => .d (.bl b)) s1
  | .fs f a => mkR fun l s => ((den cf gc a).r l s).bind fun x s1 => ofO (fsR f s1 x) s1
  | .dnew => mkR fun _ s => .ok (.m []) s
  | .dget o k x => mkR fun l s => ((den cf gc o).r l s).bind fun o s1 => if (dctAt s1 o).isSome = true then ((den cf gc k).r l s1).bind fun k s2 => ((den cf gc x).v l s2).bind fun x s3 => ofO (getR s3 o k (.d x)) s3 else .no
  | .any => ⟨noM, noM, noM, noM⟩
  | .frz a => mkR fun l s => ((den cf gc a).r l s).bind fun x s1 => .ok (frzR x) s1
  | .rng3 a b c => mkI fun l s => ((den cf gc a).r l s).bind fun x s1 => ((den cf gc b).r l s1).bind fun y s2 => ((den cf gc c).r l s2).bind fun z s3 => ofO (rng3R x y z) s3
  | .m0 m o => mkR fun l s => ((den cf gc o).v l s).bind fun x s1 => m0R m x s1
  | .m1 m o a => mkR fun l s => ((den cf gc o).v l s).bind fun x s1 => if isLstB s1 x = true then
      (if m = .append then ((den cf gc a).v l s1).bind fun y s2 => m1R m x (.d y) s2 else ((den cf gc a).r l s1).bind fun y s2 => m1R m x y s2) else .no
  | .ix a b => mkR fun l s => ((den cf gc a).r l s).bind fun x s1 => ((den cf gc b).r l s1).bind fun y s2 => ofO (ixR s2 x y) s2
  | .sl a lo hi => mkR fun l s => ((den cf gc a).r l s).bind fun x s1 =>
      (optI lo.isNil (den cf gc lo).r l s1).bind fun i s2 => (optI hi.isNil (den cf gc hi).r l s2).bind fun j s3 => ofO (slR s3 x i j) s3
  | .cp elt tg it c own => mkR fun l s => ((den cf gc it).i l s).bind fun its s1 =>
      (cpLoop tg its.src (den cf gc c).b (den cf gc elt).v (wipeL l own) its.ds [] s1).bind fun ys s2 => .ok (.l ys) s2

/-! ### statements -/
inductive Fl where
  | nx | bk | ct | rt (d : RD)
abbrev SM := Loc → Sto → Res (Fl × Loc)
open Classical in
noncomputable def forLoop (tg : Tg) (src : Option (Nat × List D)) (body : SM) : List D → Loc → Sto → Res (Fl × Loc)
  | [], l, s => if srcOk src s then .ok (.nx, l) s else .no
  | x :: xs, l, s => if srcOk src s then (match bindT tg x l with
    | none => .no
    | some l1 => (body l1 s).bind fun fl s1 => match fl.1 with
      | .nx => forLoop tg src body xs fl.2 s1
      | .ct => forLoop tg src body xs fl.2 s1
      | .bk => .ok (.nx, fl.2) s1
      | .rt d => .ok (.rt d, fl.2) s1) else .no
def whLoop (c : M Bool) (body : SM) : Nat → Loc → Sto → Res (Fl × Loc)
  | 0, _, _ => .no
  | n + 1, l, s => (c l s).bind fun t s0 => if t = true then (body l s0).bind fun fl s1 => match fl.1 with
      | .nx => whLoop c body n fl.2 s1
      | .ct => whLoop c body n fl.2 s1
      | .bk => .ok (.nx, fl.2) s1
      | .rt d => .ok (.rt d, fl.2) s1
    else .ok (.nx, l) s0
/-- o[i] = d -/
def setR (o i d : D) (s : Sto) : Res Unit :=
  match o with
  | .obj p => match s[p]? with
    | some (.lst xs) => match i with
      | .int k => match ixN xs.length k with
        | some j => .ok () (s.set p (.lst (xs.set j d)))
        | none => .no
      | _ => .no
    | some (.dct kvs) => match keyK i with
      | some k => if kvs.length < sizeLine ∧ dK kvs = true then .ok () (s.set p (.dct (dput kvs k d))) else .no
      | none => .no
    | none => .no
  | _ => .no
/-- o[i:j] = d -/
def setSlR (o d : D) (i j : Int) (s : Sto) : Res Unit :=
  match o, d with
  | .obj p, .obj q => match s[p]?, s[q]? with
    | some (.lst xs), some (.lst ys) => if p ≠ q ∧ 0 ≤ i ∧ i ≤ j ∧ j ≤ xs.length ∧ xs.length + ys.length ≤ sizeLine then .ok () (s.set p (.lst (xs.take i.toNat ++ ys ++ xs.drop j.toNat))) else .no
    | _, _ => .no
  | _, _ => .no
/-- x o= y -/
def augR (o : Bop) (x : D) (y : RD) : Option D :=
  match o, x, y with
  | .add, .int a, .d (.int b) => some (.int (a + b))
  | .sub, .int a, .d (.int b) => some (.int (a - b))
  | .add, .str a, .d (.str b) => if a.length + b.length ≤ sizeLine then some (.str (a ++ b)) else none
  | _, _, _ => none
/-- turns of a while -/
def whileFuel : Nat := 1000000
noncomputable def sden (cf : Nat → List D → Sto → Res RD) (gc : Nat → Option D) : Sm → SM
  | .nil => fun l s => .ok (.nx, l) s
  | .cons a b => fun l s => (sden cf gc a l s).bind fun fl s1 => match fl.1 with
    | .nx => sden cf gc b fl.2 s1
    | f => .ok (f, fl.2) s1
  | .ex e => fun l s => ((den cf gc e).r l s).bind fun _ s1 => .ok (.nx, l) s1
  | .set tg e => fun l s => ((den cf gc e).v l s).bind fun d s1 => match bindT tg d l with
    | some l1 => .ok (.nx, l1) s1
    | none => .no
  | .setI o i e => fun l s => ((den cf gc e).v l s).bind fun d s1 => ((den cf gc o).v l s1).bind fun p s2 => ((den cf gc i).v l s2).bind fun k s3 => (setR p k d s3).bind fun _ s4 => .ok (.nx, l) s4
  | .aug i o e => fun l s => match l[i]? with
    | some (some x) => ((den cf gc e).r l s).bind fun y s1 => (ofO (augR o x y) s1).bind fun d s2 => .ok (.nx, l.set i (some d)) s2
    | _ => .no
  | .ret e => fun l s => ((den cf gc e).r l s).bind fun d s1 => .ok (.rt d, l) s1
  | .retN => fun l s => .ok (.rt (.d .non), l) s
  | .ifs c a b => fun l s => ((den cf gc c).b l s).bind fun t s1 => if t = true then sden cf gc a l s1 else sden cf gc b l s1
  | .for_ tg it b => fun l s => ((den cf gc it).i l s).bind fun its s1 => forLoop tg its.src (sden cf gc b) its.ds l s1
  | .wh c b => fun l s => whLoop (den cf gc c).b (sden cf gc b) whileFuel l s
  | .brk => fun l s => .ok (.bk, l) s
  | .cnt => fun l s => .ok (.ct, l) s
  | .pass => fun l s => .ok (.nx, l) s
  | .any => fun _ _ => .no
  | .setSl o lo hi e => fun l s => ((den cf gc e).v l s).bind fun d s1 => ((den cf gc o).v l s1).bind fun p s2 => (optI false (den cf gc lo).r l s2).bind fun i s3 => (optI false (den cf gc hi).r l s3).bind fun j s4 =>
      match i, j with
      | some i, some j => (setSlR p d i j s4).bind fun _ s5 => .ok (.nx, l) s5
      | _, _ => .no
  | .raise n => fun _ s => .ex (.str n) s
  | .try_ b _ i n h => fun l s => match sden cf gc b l s with
    | .ex (.str m) s1 => if m = n ∧ i < l.length then .ok (.nx, (h.run (l.set i none)).set i none) s1 else .no
    | .ex _ _ => .no
    | r => r

/-! ### calls -/
mutual
def D.lt (n : Nat) : D → Bool
  | .tup xs => D.ltAll n xs
  | .lf xs => D.ltAll n xs
  | .ld ks vs => D.ltAll n ks && D.ltAll n vs
  | .obj i => decide (i < n)
  | _ => true
def D.ltAll (n : Nat) : List D → Bool
  | [] => true
  | x :: r => D.lt n x && D.ltAll n r
end
def Ob.lt (n : Nat) : Ob → Bool
  | .lst xs => D.ltAll n xs
  | .dct kvs => D.ltAll n (kvs.map (·.1)) && D.ltAll n (kvs.map (·.2))
/-- what a call leaves: what it made is let go where nothing leans on it -/
def fin (b : Nat) (r : RD) (s : Sto) : Res RD :=
  if ((s.take b).all (Ob.lt b)) = true then
    match r with
    | .l xs => if D.ltAll b xs = true then .ok (.l xs) (s.take b) else .ok (.l xs) s
    | .m kvs => if (Ob.dct kvs).lt b = true then .ok (.m kvs) (s.take b) else .ok (.m kvs) s
    | .d d => if d.lt b = true then .ok (.d d) (s.take b) else
      match d with
      | .obj i => match s[i]? with
        | some (.lst xs) => if D.ltAll b xs = true then .ok (.l xs) (s.take b) else .ok (.d d) s
        | some (.dct kvs) => if (Ob.dct kvs).lt b = true then .ok (.m kvs) (s.take b) else .ok (.d d) s
        | none => .ok (.d d) s
      | _ => .ok (.d d) s
  else .ok r s
structure Fn where
  name : Str
  ps : List Str
  ns : List Str
  body : Sm
/-- excs: classes of exceptions of the text's own; exm: which is caught by which; isx: isinstance of each; kds: dicts of the top; al: the def's name of a function that has another name here -/
structure Tab where
  fns : List Fn
  cons : List (Str × D)
  blts : List Str
  excs : List Str
  exm : List (Str × Str)
  isx : List (Str × Str × Bool)
  kds : List (Str × List (Str × Int)) := []
  al : List (Str × Str) := []
def Tab.dn (T : Tab) (x : Str) : Str := (T.al.lookup x).getD x
def Tab.isAny (T : Tab) (n : Str) : List Str → Option Bool
  | [] => some false
  | t :: r => if T.isx.contains (n, t, true) = true then some true else if T.isx.contains (n, t, false) = true then T.isAny n r else none
def Tab.gc (T : Tab) (j : Nat) : Option D := (T.cons[j]?).map (·.2)
noncomputable def runFn (cf : Nat → List D → Sto → Res RD) (gc : Nat → Option D) (F : Fn) (ds : List D) (s : Sto) : Res RD :=
  if ds.length = F.ps.length then
    (sden cf gc F.body (ds.map some ++ List.replicate (F.ns.length - ds.length) none) s).bind fun fl s1 => match fl.1 with
      | .nx => fin s.length (.d .non) s1
      | .rt d => fin s.length d s1
      | _ => .no
  else .no
noncomputable def callN (T : Tab) : Nat → Nat → List D → Sto → Res RD
  | 0, _, _, _ => .no
  | n + 1, i, ds, s => match T.fns[i]? with
    | some F => runFn (callN T n) T.gc F ds s
    | none => .no
end Nv

set_option Elab.async false
set_option linter.all false
set_option maxRecDepth 100000
set_option autoImplicit false
/-! NvRel: plain data over the abstract heap. -/
namespace Nv
open PySem PySem.Spec PyProof.Rows L2

/-- the known part of the heap, and the world (texts' hashes) -/
structure Kw where
  K : PySem.W.Frag
  w : World
instance : Coe Kw PySem.W.Frag := ⟨Kw.K⟩
abbrev _root_.L2.Cx.kw (X : Cx) : Kw := ⟨X.K, X.w⟩
/-- a list that never changes -/
def SqF (K : PySem.W.Frag) (H : Hp) (a : Addr) (xs : List V) : Prop := (∃ o, H a = some (.frz o (.lst xs))) ∨
  ∃ (o : Obj) (its : Array Value) (n : Nat), K.lookup a = some o ∧ o.cls = .type "list" ∧ o.dict = none ∧ o.data = .seq its n ∧ its.size ≤ sizeLine ∧ Vals xs its.toList
theorem SqF.sql {K : PySem.W.Frag} {H : Hp} {a : Addr} {xs : List V} (h : SqF K H a xs) : SqL K H a xs := by
  rcases h with h | h
  · exact .inl (.inr h)
  · exact .inr h
theorem SqF.mono {K : PySem.W.Frag} {H H' : Hp} (fz : ∀ (a : Addr) o u, H a = some (.frz o u) → H' a = some (.frz o u)) {a : Addr} {xs : List V} (h : SqF K H a xs) : SqF K H' a xs := by
  rcases h with ⟨u, h⟩ | h
  · exact .inl ⟨u, fz _ _ _ h⟩
  · exact .inr h
mutual
def RV (K : Kw) (ρ : List Addr) (H : Hp) : D → V → Prop
  | .non, v => v = .non
  | .bl b, v => v = .bl b
  | .int i, v => v = .int i
  | .str x, v => v = .str x
  | .tup ds, v => ∃ a vs, v = .ref a ∧ SqT K H a vs ∧ RVs K ρ H ds vs
  | .lf ds, v => ∃ a vs, v = .ref a ∧ SqF K H a vs ∧ RVs K ρ H ds vs
  | .ld ks ds, v => ∃ (a : Addr) (o : Obj) (vs : List (Key × V)), v = .ref a ∧ H a = some (.frz o (.dK vs)) ∧ vs.map (fun p => keyD p.1) = ks ∧ RVs K ρ H ds (vs.map (·.2))
  | .obj i, v => ∃ a : Addr, v = .ref a ∧ ρ[i]? = some a
def RVs (K : Kw) (ρ : List Addr) (H : Hp) : List D → List V → Prop
  | [], vs => vs = []
  | d :: ds, vs => ∃ v r, vs = v :: r ∧ RV K ρ H d v ∧ RVs K ρ H ds r
end
/-- what a heap and a table of places become -/
structure Ext (K : Kw) (ρ : List Addr) (H : Hp) (ρ' : List Addr) (H' : Hp) : Prop where
  pre : ∀ (i : Nat) (a : Addr), ρ[i]? = some a → ρ'[i]? = some a
  tup : ∀ a xs, SqT K H a xs → SqT K H' a xs
  fz : ∀ a o u, H a = some (.frz o u) → H' a = some (.frz o u)
  oth : ∀ a o, H a = some o → a ∉ ρ → H' a = some o
  new : ∀ a, a ∈ ρ' → a ∈ ρ ∨ H a = none
  bk : ∀ a, H' a = none → H a = none
/-- a dict's entry whose key is a tuple at an address -/
def entN (w : World) (x : NestedKey × Addr × Value) : DictEntry := ⟨x.1.hash w, .ref x.2.1, x.2.2⟩
/-- a dict by its entries -/
def NDO (w : World) (a : Addr) (xs : List (NestedKey × Addr × Value)) : HO := .ext fun h => ∃ o es ep, h.get? a = some o ∧ o.ExactDict ∧ o.data = .dict es ep ∧ es.toList = xs.map (entN w)
/-- a dict of texts and whole numbers; a dict of tuples -/
def DK (K : Kw) (ρ : List Addr) (H : Hp) (a : Addr) (kvs : List (D × D)) : Prop := ∃ vs : List (Key × V), H a = some (.dK vs) ∧ vs.map (fun p => keyD p.1) = kvs.map (·.1) ∧ RVs K ρ H (kvs.map (·.2)) (vs.map (·.2))
structure DN (K : Kw) (ρ : List Addr) (H : Hp) (a : Addr) (kvs : List (D × D)) (xs : List (NestedKey × Addr × Value)) (vs : List V) : Prop where
  at_ : H a = some (NDO K.w a xs)
  ne : kvs ≠ []
  few : xs.length ≤ sizeLine
  sys : (a == sysModules) = false
  nd : (xs.map (·.1)).Nodup
  ks : kvs.map (fun p => keyN p.1) = xs.map fun x => some x.1
  rk : RVs K ρ H (kvs.map (·.1)) (xs.map fun x => V.ref x.2.1)
  vl : Vals vs (xs.map (·.2.2))
  rv : RVs K ρ H (kvs.map (·.2)) vs
def ROb (K : Kw) (ρ : List Addr) (H : Hp) (a : Addr) : Ob → Prop
  | .lst xs => ∃ vs, H a = some (.lst vs) ∧ RVs K ρ H xs vs
  | .dct kvs => DK K ρ H a kvs ∨ ∃ xs vs, DN K ρ H a kvs xs vs
structure RS (K : Kw) (ρ : List Addr) (H : Hp) (s : Sto) : Prop where
  len : ρ.length = s.length
  nd : ρ.Nodup
  ob : ∀ (i : Nat) (o : Ob) (a : Addr), s[i]? = some o → ρ[i]? = some a → ROb K ρ H a o
structure RL (K : Kw) (ρ : List Addr) (H : Hp) (σ : L2.St) (l : Loc) : Prop where
  len : l.length = σ.length
  at_ : ∀ (i : Nat) (d : D), l[i]? = some (some d) → ∃ v, σ[i]? = some (some v) ∧ RV K ρ H d v
/-- H₀: the heap ahead of the expression, in which a fresh list did not stand -/
def RR (K : Kw) (H0 : Hp) (ρ : List Addr) (H : Hp) : RD → V → Prop
  | .d x, v => RV K ρ H x v
  | .l xs, v => ∃ a vs, v = .ref a ∧ H a = some (.lst vs) ∧ RVs K ρ H xs vs ∧ a ∉ ρ ∧ H0 a = none
  | .m kvs, v => ∃ a, v = .ref a ∧ ROb K ρ H a (.dct kvs) ∧ a ∉ ρ ∧ H0 a = none

section
variable {K : Kw} {ρ ρ' ρ1 : List Addr} {H H' H1 : Hp} {s : Sto} {σ : L2.St} {l : Loc}
theorem Ext.fzl (e : Ext K ρ H ρ' H') : ∀ a xs, SqF K H a xs → SqF K H' a xs := fun a xs h => h.mono e.fz
theorem Ext.refl : Ext K ρ H ρ H := ⟨fun _ _ h => h, fun _ _ h => h, fun _ _ _ h => h, fun _ _ h _ => h, fun _ h => .inl h, fun _ h => h⟩
theorem Ext.trans (e : Ext K ρ H ρ' H') (f : Ext K ρ' H' ρ1 H1) : Ext K ρ H ρ1 H1 where
  pre := fun i a h => f.pre i a (e.pre i a h)
  tup := fun a xs h => f.tup a xs (e.tup a xs h)
  fz := fun a o u h => f.fz a o u (e.fz a o u h)
  oth := fun a o h n => by
    have h1 := e.oth a o h n
    refine f.oth a o h1 fun m => ?_
    rcases e.new a m with m | m
    · exact n m
    · rw [h] at m; cases m
  new := fun a m => by
    rcases f.new a m with m | m
    · exact e.new a m
    · cases q : H a with
      | none => exact .inr rfl
      | some o =>
        by_cases r : a ∈ ρ
        · exact .inl r
        · rw [e.oth a o q r] at m; cases m
  bk := fun a h => e.bk a (f.bk a h)
mutual
theorem RV.mono0 (pre : ∀ (i : Nat) (a : Addr), ρ[i]? = some a → ρ'[i]? = some a) (tup : ∀ a xs, SqT K H a xs → SqT K H' a xs) (fz : ∀ (a : Addr) o u, H a = some (.frz o u) → H' a = some (.frz o u)) : ∀ (d : D) (v : V), RV K ρ H d v → RV K ρ' H' d v
  | .non, _, h => by unfold RV at *; exact h
  | .bl _, _, h => by unfold RV at *; exact h
  | .int _, _, h => by unfold RV at *; exact h
  | .str _, _, h => by unfold RV at *; exact h
  | .tup ds, _, h => by
    unfold RV at *
    obtain ⟨a, vs, e1, e2, e3⟩ := h
    exact ⟨a, vs, e1, tup a vs e2, RVs.mono0 pre tup fz ds vs e3⟩
  | .lf ds, _, h => by
    unfold RV at *
    obtain ⟨a, vs, e1, e2, e3⟩ := h
    exact ⟨a, vs, e1, e2.mono fz, RVs.mono0 pre tup fz ds vs e3⟩
  | .ld ks ds, _, h => by
    unfold RV at *
    obtain ⟨a, o, vs, e1, e2, e3, e4⟩ := h
    exact ⟨a, o, vs, e1, fz a _ _ e2, e3, RVs.mono0 pre tup fz ds _ e4⟩
  | .obj i, _, h => by
    unfold RV at *
    obtain ⟨a, e1, e2⟩ := h
    exact ⟨a, e1, pre i a e2⟩
theorem RVs.mono0 (pre : ∀ (i : Nat) (a : Addr), ρ[i]? = some a → ρ'[i]? = some a) (tup : ∀ a xs, SqT K H a xs → SqT K H' a xs) (fz : ∀ (a : Addr) o u, H a = some (.frz o u) → H' a = some (.frz o u)) : ∀ (ds : List D) (vs : List V), RVs K ρ H ds vs → RVs K ρ' H' ds vs
  | [], _, h => by unfold RVs at *; exact h
  | d :: ds, _, h => by
    unfold RVs at *
    obtain ⟨v, r, e1, e2, e3⟩ := h
    exact ⟨v, r, e1, RV.mono0 pre tup fz d v e2, RVs.mono0 pre tup fz ds r e3⟩
end
theorem RV.mono (e : Ext K ρ H ρ' H') (d : D) (v : V) (h : RV K ρ H d v) : RV K ρ' H' d v := RV.mono0 e.pre e.tup e.fz d v h
theorem RVs.mono (e : Ext K ρ H ρ' H') (d : List D) (v : List V) (h : RVs K ρ H d v) : RVs K ρ' H' d v := RVs.mono0 e.pre e.tup e.fz d v h
mutual
theorem RV.widen (pre : ∀ (i : Nat) (a : Addr), ρ[i]? = some a → ρ'[i]? = some a) : ∀ {d : D} {v : V}, RV K ρ H d v → RV K ρ' H d v
  | .non, _, h => by unfold RV at *; exact h
  | .bl _, _, h => by unfold RV at *; exact h
  | .int _, _, h => by unfold RV at *; exact h
  | .str _, _, h => by unfold RV at *; exact h
  | .tup ds, _, h => by
    unfold RV at *
    obtain ⟨a, vs, e1, e2, e3⟩ := h
    exact ⟨a, vs, e1, e2, RVs.widen pre e3⟩
  | .lf ds, _, h => by
    unfold RV at *
    obtain ⟨a, vs, e1, e2, e3⟩ := h
    exact ⟨a, vs, e1, e2, RVs.widen pre e3⟩
  | .ld ks ds, _, h => by
    unfold RV at *
    obtain ⟨a, o, vs, e1, e2, e3, e4⟩ := h
    exact ⟨a, o, vs, e1, e2, e3, RVs.widen pre e4⟩
  | .obj i, _, h => by
    unfold RV at *
    obtain ⟨a, e1, e2⟩ := h
    exact ⟨a, e1, pre i a e2⟩
theorem RVs.widen (pre : ∀ (i : Nat) (a : Addr), ρ[i]? = some a → ρ'[i]? = some a) : ∀ {ds : List D} {vs : List V}, RVs K ρ H ds vs → RVs K ρ' H ds vs
  | [], _, h => by unfold RVs at *; exact h
  | d :: ds, _, h => by
    unfold RVs at *
    obtain ⟨v, r, e1, e2, e3⟩ := h
    exact ⟨v, r, e1, RV.widen pre e2, RVs.widen pre e3⟩
end
theorem RL.mono (e : Ext K ρ H ρ' H') (h : RL K ρ H σ l) : RL K ρ' H' σ l := ⟨h.len, fun i d q => by
  obtain ⟨v, h1, h2⟩ := h.at_ i d q
  exact ⟨v, h1, RV.mono e d v h2⟩⟩
theorem RVs.length : ∀ {ds : List D} {vs : List V}, RVs K ρ H ds vs → vs.length = ds.length
  | [], _, h => by unfold RVs at h; rw [h]; rfl
  | d :: ds, _, h => by
    unfold RVs at h
    obtain ⟨v, r, e1, _, e3⟩ := h
    rw [e1, List.length_cons, List.length_cons, RVs.length e3]
theorem RVs.get : ∀ {ds : List D} {vs : List V} {i : Nat} {d : D}, RVs K ρ H ds vs → ds[i]? = some d → ∃ v, vs[i]? = some v ∧ RV K ρ H d v
  | [], _, _, _, _, q => by simp at q
  | x :: ds, _, 0, d, h, q => by
    unfold RVs at h
    obtain ⟨v, r, e1, e2, _⟩ := h
    simp at q
    subst q
    exact ⟨v, by rw [e1]; rfl, e2⟩
  | x :: ds, _, i + 1, d, h, q => by
    unfold RVs at h
    obtain ⟨v, r, e1, _, e3⟩ := h
    obtain ⟨w, h1, h2⟩ := RVs.get (i := i) (d := d) e3 (by simpa using q)
    exact ⟨w, by rw [e1]; simpa using h1, h2⟩
theorem RVs.append : ∀ {ds es : List D} {vs us : List V}, RVs K ρ H ds vs → RVs K ρ H es us → RVs K ρ H (ds ++ es) (vs ++ us)
  | [], _, _, _, h, h2 => by unfold RVs at h; rw [h]; exact h2
  | d :: ds, es, _, us, h, h2 => by
    unfold RVs at h
    obtain ⟨v, r, e1, e2, e3⟩ := h
    show RVs K ρ H (d :: (ds ++ es)) _
    unfold RVs
    exact ⟨v, r ++ us, by rw [e1]; rfl, e2, RVs.append e3 h2⟩
theorem RVs.take : ∀ {ds : List D} {vs : List V} (n : Nat), RVs K ρ H ds vs → RVs K ρ H (ds.take n) (vs.take n)
  | _, _, 0, _ => by rw [List.take_zero, List.take_zero]; unfold RVs; rfl
  | [], _, _ + 1, h => by unfold RVs at h; rw [h]; simp [RVs]
  | d :: ds, _, n + 1, h => by
    unfold RVs at h
    obtain ⟨v, r, e1, e2, e3⟩ := h
    subst e1
    show RVs K ρ H (d :: ds.take n) (v :: r.take n)
    unfold RVs
    exact ⟨v, _, rfl, e2, RVs.take n e3⟩
theorem RVs.drop : ∀ {ds : List D} {vs : List V} (n : Nat), RVs K ρ H ds vs → RVs K ρ H (ds.drop n) (vs.drop n)
  | _, _, 0, h => h
  | [], _, _ + 1, h => by unfold RVs at h; rw [h]; simp [RVs]
  | d :: ds, _, n + 1, h => by
    unfold RVs at h
    obtain ⟨v, r, e1, e2, e3⟩ := h
    subst e1
    exact RVs.drop n e3
theorem RVs.set {d : D} {v : V} (hd : RV K ρ H d v) : ∀ {ds : List D} {vs : List V} (n : Nat), RVs K ρ H ds vs → RVs K ρ H (ds.set n d) (vs.set n v)
  | [], _, _, h => by unfold RVs at h; rw [h]; simp [RVs]
  | x :: ds, _, 0, h => by
    unfold RVs at h
    obtain ⟨w, r, e1, e2, e3⟩ := h
    subst e1
    show RVs K ρ H (d :: ds) (v :: r)
    unfold RVs
    exact ⟨v, _, rfl, hd, e3⟩
  | x :: ds, _, n + 1, h => by
    unfold RVs at h
    obtain ⟨w, r, e1, e2, e3⟩ := h
    subst e1
    show RVs K ρ H (x :: ds.set n d) (w :: r.set n v)
    unfold RVs
    exact ⟨w, _, rfl, e2, RVs.set hd n e3⟩
theorem RVs.reverse : ∀ {ds : List D} {vs : List V}, RVs K ρ H ds vs → RVs K ρ H ds.reverse vs.reverse
  | [], _, h => by unfold RVs at h; rw [h]; simp [RVs]
  | x :: ds, _, h => by
    unfold RVs at h
    obtain ⟨w, r, e1, e2, e3⟩ := h
    subst e1
    rw [List.reverse_cons, List.reverse_cons]
    refine RVs.append (RVs.reverse e3) ?_
    unfold RVs
    exact ⟨w, [], rfl, e2, by unfold RVs; rfl⟩
theorem RVs.one {d : D} {v : V} (h : RV K ρ H d v) : RVs K ρ H [d] [v] := by
  unfold RVs
  exact ⟨v, [], rfl, h, by unfold RVs; rfl⟩
theorem RVs.nil_ : RVs K ρ H [] [] := by unfold RVs; rfl
theorem RVs.cons_ {d : D} {v : V} {ds : List D} {vs : List V} (h : RV K ρ H d v) (h2 : RVs K ρ H ds vs) : RVs K ρ H (d :: ds) (v :: vs) := by
  unfold RVs
  exact ⟨v, vs, rfl, h, h2⟩

theorem nodup_ix_ : ∀ {l : List Addr} {i j : Nat} {a : Addr}, l.Nodup → l[i]? = some a → l[j]? = some a → i = j := by
  intro l i j a nd h1 h2
  obtain ⟨b1, e1⟩ := List.getElem?_eq_some_iff.mp h1
  obtain ⟨b2, e2⟩ := List.getElem?_eq_some_iff.mp h2
  have pw := List.pairwise_iff_getElem.mp nd
  rcases Nat.lt_trichotomy i j with h | h | h
  · exact absurd (e1.trans e2.symm) (pw i j b1 b2 h)
  · exact h
  · exact absurd (e2.trans e1.symm) (pw j i b2 b1 h)
/-! ### steps of the heap -/
theorem sqt_new {a p : Addr} {xs : List V} {o : HO} (hp : H p = none) (h : SqT K H a xs) : SqT K (upd H p o) a xs := by
  rcases h with (h | ⟨u, h⟩) | h
  · exact .inl (.inl (by rw [upd_ne (ne_of_none h hp)]; exact h))
  · exact .inl (.inr ⟨u, by rw [upd_ne (ne_of_none h hp)]; exact h⟩)
  · exact .inr h
/-- a thing that may be changed -/
def Chg (H : Hp) (p : Addr) : Prop := (∀ xs, H p ≠ some (.tup xs)) ∧ ∀ o u, H p ≠ some (.frz o u)
theorem Chg.lst {p : Addr} {ys : List V} (h : H p = some (.lst ys)) : Chg H p := ⟨fun xs z => (by rw [h] at z; cases z), fun o u z => (by rw [h] at z; cases z)⟩
theorem Chg.dK {p : Addr} {ys : List (Key × V)} (h : H p = some (.dK ys)) : Chg H p := ⟨fun xs z => (by rw [h] at z; cases z), fun o u z => (by rw [h] at z; cases z)⟩
theorem ROb.chg {a : Addr} {o : Ob} (h : ROb K ρ H a o) : Chg H a := by
  cases o with
  | lst xs => obtain ⟨vs, h1, h2⟩ := h; exact .lst h1
  | dct kvs =>
    rcases h with ⟨vs, h1, h2, h3⟩ | ⟨xs, vs, h⟩
    · exact .dK h1
    · exact ⟨fun xs z => (by rw [h.at_] at z; cases z), fun o u z => (by rw [h.at_] at z; cases z)⟩
theorem sqt_chg {a p : Addr} {xs : List V} {o : HO} (hp : Chg H p) (h : SqT K H a xs) : SqT K (upd H p o) a xs := by
  rcases h with (h | ⟨u, h⟩) | h
  · exact .inl (.inl (by rw [upd_ne (fun z => hp.1 xs (by rw [← z]; exact h))]; exact h))
  · exact .inl (.inr ⟨u, by rw [upd_ne (fun z => hp.2 u (.tup xs) (by rw [← z]; exact h))]; exact h⟩)
  · exact .inr h
theorem fz_chg {p : Addr} {o : HO} (hp : Chg H p) : ∀ (a : Addr) ob u, H a = some (.frz ob u) → upd H p o a = some (.frz ob u) := fun a ob u h => by
  rw [upd_ne (fun z => hp.2 ob u (by rw [← z]; exact h))]; exact h
theorem fz_new {p : Addr} {o : HO} (hp : H p = none) : ∀ (a : Addr) ob u, H a = some (.frz ob u) → upd H p o a = some (.frz ob u) := fun a ob u h => by
  rw [upd_ne (ne_of_none h hp)]; exact h
theorem sqt_lst {a p : Addr} {xs ys : List V} {o : HO} (hp : H p = some (.lst ys)) (h : SqT K H a xs) : SqT K (upd H p o) a xs := by
  rcases h with (h | ⟨u, h⟩) | h
  · exact .inl (.inl (by rw [upd_ne (ne_of h hp (fun z => by cases z))]; exact h))
  · exact .inl (.inr ⟨u, by rw [upd_ne (ne_of h hp (fun z => by cases z))]; exact h⟩)
  · exact .inr h
theorem SqF.upd_new {a p : Addr} {xs : List V} {o : HO} (hp : H p = none) (h : SqF K H a xs) : SqF K (upd H p o) a xs := by
  rcases h with ⟨u, h⟩ | h
  · exact .inl ⟨u, by rw [upd_ne (ne_of_none h hp)]; exact h⟩
  · exact .inr h
theorem SqF.upd_lst {a p : Addr} {xs ys : List V} {o : HO} (hp : H p = some (.lst ys)) (h : SqF K H a xs) : SqF K (upd H p o) a xs := by
  rcases h with ⟨u, h⟩ | h
  · exact .inl ⟨u, by rw [upd_ne (ne_of h hp (fun z => by cases z))]; exact h⟩
  · exact .inr h
/-- a new object that the store does not know -/
theorem Ext.laid {p : Addr} {o : HO} (hp : H p = none) : Ext K ρ H ρ (upd H p o) where
  pre := fun _ _ h => h
  tup := fun a xs h => sqt_new hp h
  fz := fz_new hp
  oth := fun a u h _ => by rw [upd_ne (ne_of_none h hp)]; exact h
  new := fun a h => .inl h
  bk := fun a h => by
    by_cases e : a = p
    · rw [e]; exact hp
    · rw [upd_ne e] at h; exact h
theorem DN.imp {K' : Kw} {a : Addr} {kvs : List (D × D)} {xs : List (NestedKey × Addr × Value)} {vs : List V} (h : DN K ρ H a kvs xs vs) (ha : H' a = some (NDO K.w a xs)) (q : ∀ ds us, RVs K ρ H ds us → RVs K ρ' H' ds us) : DN K ρ' H' a kvs xs vs :=
  ⟨ha, h.ne, h.few, h.sys, h.nd, h.ks, q _ _ h.rk, h.vl, q _ _ h.rv⟩
theorem ROb.mono {a : Addr} {o : Ob} (e : Ext K ρ H ρ' H') (hl : ∀ u, H a = some u → H' a = some u) (h : ROb K ρ H a o) : ROb K ρ' H' a o := by
  cases o with
  | lst xs => obtain ⟨vs, h1, h2⟩ := h; exact ⟨vs, hl _ h1, RVs.mono e xs vs h2⟩
  | dct kvs =>
    rcases h with ⟨vs, h1, h2, h3⟩ | ⟨xs, vs, h⟩
    · exact .inl ⟨vs, hl _ h1, h2, RVs.mono e _ _ h3⟩
    · exact .inr ⟨xs, vs, h.imp (K' := K) (hl _ h.at_) fun _ _ q => RVs.mono e _ _ q⟩
theorem ROb.there {a : Addr} {o : Ob} (h : ROb K ρ H a o) : H a ≠ none := by
  cases o with
  | lst xs => obtain ⟨vs, h1, h2⟩ := h; rw [h1]; exact fun z => by cases z
  | dct kvs =>
    rcases h with ⟨vs, h1, h2, h3⟩ | ⟨xs, vs, h⟩
    · rw [h1]; exact fun z => by cases z
    · rw [h.at_]; exact fun z => by cases z
theorem RR.mono {H0 : Hp} (e : Ext K ρ H ρ' H') {a : RD} {v : V} (h : RR K H0 ρ H a v) : RR K H0 ρ' H' a v := by
  cases a with
  | d x => exact RV.mono e x v h
  | l xs =>
    obtain ⟨a, vs, e1, e2, e3, e4, e5⟩ := h
    refine ⟨a, vs, e1, e.oth a _ e2 e4, RVs.mono e xs vs e3, fun m => ?_, e5⟩
    rcases e.new a m with m | m
    · exact e4 m
    · rw [e2] at m; cases m
  | m kvs =>
    obtain ⟨a, e1, e2, e4, e5⟩ := h
    refine ⟨a, e1, e2.mono e (fun u q => e.oth a u q e4), fun m => ?_, e5⟩
    rcases e.new a m with m | m
    · exact e4 m
    · exact e2.there m
theorem ROb.widen (pre : ∀ (i : Nat) (a : Addr), ρ[i]? = some a → ρ'[i]? = some a) {a : Addr} {o : Ob} (h : ROb K ρ H a o) : ROb K ρ' H a o := by
  cases o with
  | lst xs => obtain ⟨vs, h1, h2⟩ := h; exact ⟨vs, h1, h2.widen pre⟩
  | dct kvs =>
    rcases h with ⟨vs, h1, h2, h3⟩ | ⟨xs, vs, h⟩
    · exact .inl ⟨vs, h1, h2, h3.widen pre⟩
    · exact .inr ⟨xs, vs, h.imp (K' := K) h.at_ fun _ _ q => q.widen pre⟩
theorem RS.there {p : Addr} (h : RS K ρ H s) (m : p ∈ ρ) : H p ≠ none := by
  obtain ⟨i, hi⟩ := List.mem_iff_getElem?.mp m
  have hlt : i < s.length := by
    rw [← h.len]
    exact (List.getElem?_eq_some_iff.mp hi).1
  exact (h.ob i _ p (List.getElem?_eq_getElem hlt) hi).there
theorem RS.fresh {p : Addr} (h : RS K ρ H s) (hp : H p = none) : p ∉ ρ := fun m => h.there m hp
theorem RS.laid {p : Addr} {o : HO} (hp : H p = none) (h : RS K ρ H s) : RS K ρ (upd H p o) s :=
  ⟨h.len, h.nd, fun i ob a h1 h2 => (h.ob i ob a h1 h2).mono (Ext.laid hp) fun u q => by rw [upd_ne (ne_of_none q hp)]; exact q⟩
/-- .. that the store takes up -/
theorem Ext.take_up {p : Addr} {o : HO} (hp : H p = none) : Ext K ρ H (ρ ++ [p]) (upd H p o) where
  pre := fun i a h => by rw [List.getElem?_append_left (List.getElem?_eq_some_iff.mp h).1]; exact h
  tup := fun a xs h => sqt_new hp h
  fz := fz_new hp
  oth := fun a u h _ => by rw [upd_ne (ne_of_none h hp)]; exact h
  new := fun a h => by
    rcases List.mem_append.mp h with h | h
    · exact .inl h
    · rw [List.mem_singleton.mp h]; exact .inr hp
  bk := fun a h => by
    by_cases e : a = p
    · rw [e]; exact hp
    · rw [upd_ne e] at h; exact h
/-- the thing at p, which the store does not know, is taken up -/
theorem RS.upO {p : Addr} {ob : Ob} (h : RS K ρ H s) (ro : ROb K ρ H p ob) (hn : p ∉ ρ) : RS K (ρ ++ [p]) H (s ++ [ob]) := by
  have pre : ∀ (i : Nat) (a : Addr), ρ[i]? = some a → (ρ ++ [p])[i]? = some a := fun i a q => by rw [List.getElem?_append_left (List.getElem?_eq_some_iff.mp q).1]; exact q
  refine ⟨by rw [List.length_append, List.length_append, h.len]; rfl, ?_, fun i o a h1 h2 => ?_⟩
  · rw [List.nodup_append]
    refine ⟨h.nd, by simp, fun a ha b hb => ?_⟩
    rw [List.mem_singleton.mp hb]
    rintro rfl
    exact hn ha
  · by_cases hi : i < s.length
    · rw [List.getElem?_append_left hi] at h1
      rw [List.getElem?_append_left (by rw [h.len]; exact hi)] at h2
      exact (h.ob i o a h1 h2).widen pre
    · have hi2 : i = s.length := by
        have := (List.getElem?_eq_some_iff.mp h1).1
        rw [List.length_append] at this
        simp at this
        omega
      subst hi2
      rw [List.getElem?_append_right (Nat.le_refl _), Nat.sub_self] at h1
      rw [List.getElem?_append_right (by rw [h.len]; exact Nat.le_refl _), h.len, Nat.sub_self] at h2
      cases h1
      cases h2
      exact ro.widen pre
theorem RS.up {p : Addr} {xs : List D} {vs : List V} (h : RS K ρ H s) (hp : H p = some (.lst vs)) (hn : p ∉ ρ) (r : RVs K ρ H xs vs) : RS K (ρ ++ [p]) H (s ++ [.lst xs]) := h.upO (ob := .lst xs) ⟨vs, hp, r⟩ hn
/-- a fresh list is taken up -/
theorem Ext.up {p : Addr} {ρ0 : List Addr} {H0 : Hp} (e : Ext K ρ0 H0 ρ H) (h0 : H0 p = none) : Ext K ρ0 H0 (ρ ++ [p]) H where
  pre := fun i a h => by
    have q := e.pre i a h
    rw [List.getElem?_append_left (List.getElem?_eq_some_iff.mp q).1]; exact q
  tup := e.tup
  fz := e.fz
  oth := e.oth
  new := fun a h => by
    rcases List.mem_append.mp h with h | h
    · exact e.new a h
    · rw [List.mem_singleton.mp h]; exact .inr h0
  bk := e.bk
/-- the list at p, which the store knows, is changed -/
theorem Ext.write {p : Addr} {vs ws : List V} (hp : H p = some (.lst vs)) (m : p ∈ ρ) : Ext K ρ H ρ (upd H p (.lst ws)) where
  pre := fun _ _ h => h
  tup := fun a xs h => sqt_lst hp h
  fz := fz_chg (.lst hp)
  oth := fun a u h n => by rw [upd_ne (fun z => n (by rw [z]; exact m))]; exact h
  new := fun a h => .inl h
  bk := fun a h => by
    by_cases e : a = p
    · rw [e, upd_same] at h; cases h
    · rw [upd_ne e] at h; exact h
theorem RS.write {i : Nat} {p : Addr} {vs ws : List V} {xs : List D} (h : RS K ρ H s) (hi : ρ[i]? = some p) (hp : H p = some (.lst vs)) (r : RVs K ρ H xs ws) : RS K ρ (upd H p (.lst ws)) (s.set i (.lst xs)) := by
  have m : p ∈ ρ := List.mem_of_getElem? hi
  have e := Ext.write (K := K) (ws := ws) hp m
  refine ⟨by rw [List.length_set]; exact h.len, h.nd, fun j o a h1 h2 => ?_⟩
  by_cases hj : i = j
  · subst hj
    rw [hi] at h2
    cases h2
    have hlt : i < s.length := by rw [← h.len]; exact (List.getElem?_eq_some_iff.mp hi).1
    rw [List.getElem?_set_self hlt] at h1
    cases h1
    exact ⟨ws, upd_same, RVs.mono e _ _ r⟩
  · rw [List.getElem?_set_ne hj] at h1
    refine (h.ob j o a h1 h2).mono e fun u q => ?_
    rw [upd_ne ?_]
    · exact q
    · rintro rfl
      exact hj (nodup_ix_ h.nd hi h2)
theorem RS.lstAt {i : Nat} {xs : List D} (h : RS K ρ H s) (hs : s[i]? = some (.lst xs)) : ∃ p vs, ρ[i]? = some p ∧ H p = some (.lst vs) ∧ RVs K ρ H xs vs := by
  have hlt : i < ρ.length := by rw [h.len]; exact (List.getElem?_eq_some_iff.mp hs).1
  obtain ⟨vs, q1, q2⟩ := h.ob i _ _ hs (List.getElem?_eq_getElem hlt)
  exact ⟨_, vs, List.getElem?_eq_getElem hlt, q1, q2⟩
/-! dicts -/
theorem ROb.dk {a : Addr} {kvs : List (D × D)} (h : ROb K ρ H a (.dct kvs)) (q : dK kvs = true) : DK K ρ H a kvs := by
  rcases h with h | ⟨xs, vs, h⟩
  · exact h
  · exfalso
    cases kvs with
    | nil => exact h.ne rfl
    | cons p r =>
      have hk := h.ks
      cases xs with
      | nil => cases hk
      | cons x xs =>
        rw [List.map_cons, List.map_cons] at hk
        injection hk with h1 _
        unfold dK at q
        rw [List.all_cons, Bool.and_eq_true] at q
        have q1 := q.1
        unfold keyN at h1
        cases hp : p.1 with
        | int i => rw [hp] at h1; simp [keyOf, tupK] at h1
        | str i => rw [hp] at h1; simp [keyOf, tupK] at h1
        | _ => rw [hp] at q1; simp [keyK] at q1
theorem RS.dctAt {i : Nat} {kvs : List (D × D)} (h : RS K ρ H s) (hs : s[i]? = some (.dct kvs)) (q : dK kvs = true) : ∃ p vs, ρ[i]? = some p ∧ H p = some (.dK vs) ∧ vs.map (fun p => keyD p.1) = kvs.map (·.1) ∧ RVs K ρ H (kvs.map (·.2)) (vs.map (·.2)) := by
  have hlt : i < ρ.length := by rw [h.len]; exact (List.getElem?_eq_some_iff.mp hs).1
  obtain ⟨vs, q1, q2, q3⟩ := (h.ob i _ _ hs (List.getElem?_eq_getElem hlt)).dk q
  exact ⟨_, vs, List.getElem?_eq_getElem hlt, q1, q2, q3⟩
theorem sqt_dK {a p : Addr} {xs : List V} {ys : List (Key × V)} {o : HO} (hp : H p = some (.dK ys)) (h : SqT K H a xs) : SqT K (upd H p o) a xs := by
  rcases h with (h | ⟨u, h⟩) | h
  · exact .inl (.inl (by rw [upd_ne (ne_of h hp (fun z => by cases z))]; exact h))
  · exact .inl (.inr ⟨u, by rw [upd_ne (ne_of h hp (fun z => by cases z))]; exact h⟩)
  · exact .inr h
theorem SqF.upd_dK {a p : Addr} {xs : List V} {ys : List (Key × V)} {o : HO} (hp : H p = some (.dK ys)) (h : SqF K H a xs) : SqF K (upd H p o) a xs := by
  rcases h with ⟨u, h⟩ | h
  · exact .inl ⟨u, by rw [upd_ne (ne_of h hp (fun z => by cases z))]; exact h⟩
  · exact .inr h
theorem Ext.writeD {p : Addr} {vs ws : List (Key × V)} (hp : H p = some (.dK vs)) (m : p ∈ ρ) : Ext K ρ H ρ (upd H p (.dK ws)) where
  pre := fun _ _ h => h
  tup := fun a xs h => sqt_dK hp h
  fz := fz_chg (.dK hp)
  oth := fun a u h n => by rw [upd_ne (fun z => n (by rw [z]; exact m))]; exact h
  new := fun a h => .inl h
  bk := fun a h => by
    by_cases e : a = p
    · rw [e, upd_same] at h; cases h
    · rw [upd_ne e] at h; exact h
theorem RS.writeD {i : Nat} {p : Addr} {vs ws : List (Key × V)} {kvs : List (D × D)} (h : RS K ρ H s) (hi : ρ[i]? = some p) (hp : H p = some (.dK vs)) (hk : ws.map (fun p => keyD p.1) = kvs.map (·.1)) (r : RVs K ρ H (kvs.map (·.2)) (ws.map (·.2))) : RS K ρ (upd H p (.dK ws)) (s.set i (.dct kvs)) := by
  have m : p ∈ ρ := List.mem_of_getElem? hi
  have e := Ext.writeD (K := K) (ws := ws) hp m
  refine ⟨by rw [List.length_set]; exact h.len, h.nd, fun j o a h1 h2 => ?_⟩
  by_cases hj : i = j
  · subst hj
    rw [hi] at h2
    cases h2
    have hlt : i < s.length := by rw [← h.len]; exact (List.getElem?_eq_some_iff.mp hi).1
    rw [List.getElem?_set_self hlt] at h1
    cases h1
    exact .inl ⟨ws, upd_same, hk, RVs.mono e _ _ r⟩
  · rw [List.getElem?_set_ne hj] at h1
    refine (h.ob j o a h1 h2).mono e fun u q => ?_
    rw [upd_ne ?_]
    · exact q
    · rintro rfl
      exact hj (nodup_ix_ h.nd hi h2)
/-! ### a fresh list that the store does not know grows -/
section
variable {p : Addr} {vs ws : List V}
section
variable {ho : HO}
theorem RV.pokeA (hp : Chg H p) {d : D} {v : V} (h : RV K ρ H d v) : RV K ρ (upd H p ho) d v := RV.mono0 (fun _ _ q => q) (fun a xs q => sqt_chg hp q) (fz_chg hp) d v h
theorem RVs.pokeA (hp : Chg H p) {d : List D} {v : List V} (h : RVs K ρ H d v) : RVs K ρ (upd H p ho) d v := RVs.mono0 (fun _ _ q => q) (fun a xs q => sqt_chg hp q) (fz_chg hp) d v h
theorem RS.pokeA (hp : Chg H p) (hn : p ∉ ρ) (h : RS K ρ H s) : RS K ρ (upd H p ho) s := by
  refine ⟨h.len, h.nd, fun i o a h1 h2 => ?_⟩
  have q := h.ob i o a h1 h2
  have ne : a ≠ p := fun z => hn (by rw [← z]; exact List.mem_of_getElem? h2)
  cases o with
  | lst xs =>
    obtain ⟨us, q1, q2⟩ := q
    exact ⟨us, by rw [upd_ne ne]; exact q1, q2.pokeA hp⟩
  | dct kvs =>
    rcases q with ⟨us, q1, q2, q3⟩ | ⟨xs, vs, q⟩
    · exact .inl ⟨us, by rw [upd_ne ne]; exact q1, q2, q3.pokeA hp⟩
    · exact .inr ⟨xs, vs, q.imp (K' := K) (by rw [upd_ne ne]; exact q.at_) fun _ _ z => z.pokeA hp⟩
theorem Ext.pokeA {ρ0 : List Addr} {H0 : Hp} (e : Ext K ρ0 H0 ρ H) (h0 : H0 p = none) (hp : Chg H p) : Ext K ρ0 H0 ρ (upd H p ho) where
  pre := e.pre
  tup := fun a xs h => sqt_chg hp (e.tup a xs h)
  fz := fun a o u h => fz_chg hp a o u (e.fz a o u h)
  oth := fun a o h n => by rw [upd_ne (ne_of_none h h0)]; exact e.oth a o h n
  new := e.new
  bk := fun a h => by
    by_cases z : a = p
    · rw [z]; exact h0
    · rw [upd_ne z] at h; exact e.bk a h
end
theorem RV.poke (hp : H p = some (.lst vs)) {d : D} {v : V} (h : RV K ρ H d v) : RV K ρ (upd H p (.lst ws)) d v := RV.mono0 (fun _ _ q => q) (fun a xs q => sqt_lst hp q) (fz_chg (.lst hp)) d v h
theorem RVs.poke (hp : H p = some (.lst vs)) {d : List D} {v : List V} (h : RVs K ρ H d v) : RVs K ρ (upd H p (.lst ws)) d v := RVs.mono0 (fun _ _ q => q) (fun a xs q => sqt_lst hp q) (fz_chg (.lst hp)) d v h
theorem RL.poke (hp : H p = some (.lst vs)) (h : RL K ρ H σ l) : RL K ρ (upd H p (.lst ws)) σ l := ⟨h.len, fun i d q => by
  obtain ⟨v, h1, h2⟩ := h.at_ i d q
  exact ⟨v, h1, h2.poke hp⟩⟩
theorem RS.poke (hp : H p = some (.lst vs)) (hn : p ∉ ρ) (h : RS K ρ H s) : RS K ρ (upd H p (.lst ws)) s := by
  refine ⟨h.len, h.nd, fun i o a h1 h2 => ?_⟩
  have q := h.ob i o a h1 h2
  have ne : a ≠ p := fun z => hn (by rw [← z]; exact List.mem_of_getElem? h2)
  cases o with
  | lst xs =>
    obtain ⟨us, q1, q2⟩ := q
    exact ⟨us, by rw [upd_ne ne]; exact q1, q2.poke hp⟩
  | dct kvs =>
    rcases q with ⟨us, q1, q2, q3⟩ | ⟨xs, vs, q⟩
    · exact .inl ⟨us, by rw [upd_ne ne]; exact q1, q2, q3.poke hp⟩
    · exact .inr ⟨xs, vs, q.imp (K' := K) (by rw [upd_ne ne]; exact q.at_) fun _ _ z => z.poke hp⟩
theorem Ext.poke {ρ0 : List Addr} {H0 : Hp} (e : Ext K ρ0 H0 ρ H) (h0 : H0 p = none) (hp : H p = some (.lst vs)) : Ext K ρ0 H0 ρ (upd H p (.lst ws)) where
  pre := e.pre
  tup := fun a xs h => sqt_lst hp (e.tup a xs h)
  fz := fun a o u h => fz_chg (.lst hp) a o u (e.fz a o u h)
  oth := fun a o h n => by rw [upd_ne (ne_of_none h h0)]; exact e.oth a o h n
  new := e.new
  bk := fun a h => by
    by_cases z : a = p
    · rw [z]; exact h0
    · rw [upd_ne z] at h; exact e.bk a h
end
end
end Nv

set_option Elab.async false
set_option linter.all false
set_option maxRecDepth 100000
set_option autoImplicit false
/-! NvOp: the operators keep what the interpreter says of them. -/
namespace Nv
open PySem PySem.Spec PyProof.Rows L2

/-- what is wanted of an exception -/
abbrev Wx := List Addr → Hp → D → Prop
/-- what is wanted behind a piece of the interpreter's run -/
def Post (K : Kw) (W : Wx) {α β : Type} (R : Hp → List Addr → Hp → α → β → Prop) (ρ : List Addr) (H : Hp) (Q : β → Hp → Prop) : Res α → Prop
  | .ok a s => ∀ ρ' H' v, Ext K ρ H ρ' H' → RS K ρ' H' s → R H ρ' H' a v → Q v H'
  | .ex x s => ∀ ρ' H', Ext K ρ H ρ' H' → RS K ρ' H' s → W ρ' H' x
  | .no => False
/-- a relation that holds from further back -/
def Bk (K : Kw) {α β : Type} (R : Hp → List Addr → Hp → α → β → Prop) : Prop :=
  ∀ (ρ : List Addr) (H : Hp) (ρ1 : List Addr) (H1 : Hp) (ρ' : List Addr) (H' : Hp) (a : α) (v : β), Ext K ρ H ρ1 H1 → R H1 ρ' H' a v → R H ρ' H' a v
section
variable {K : Kw} {W : Wx} {α β γ δ : Type} {R : Hp → List Addr → Hp → α → β → Prop} {R2 : Hp → List Addr → Hp → γ → δ → Prop} {ρ ρ1 : List Addr} {H H1 : Hp}
theorem Post.mono {Q : β → Hp → Prop} (b : Bk K R) (e : Ext K ρ H ρ1 H1) : ∀ {r : Res α}, Post K W R ρ H Q r → Post K W R ρ1 H1 Q r
  | .ok a s, h => fun ρ' H' v e' rs r => h ρ' H' v (e.trans e') rs (b _ _ _ _ _ _ _ _ e r)
  | .ex x s, h => fun ρ' H' e' rs => h ρ' H' (e.trans e') rs
  | .no, h => h
theorem Post.bind {Q : δ → Hp → Prop} {Q1 : β → Hp → Prop} {r : Res α} {f : α → Sto → Res γ} (b : Bk K R2) (h : Post K W R2 ρ H Q (r.bind f))
    (k : ∀ a s1 ρ1 H1 v, Ext K ρ H ρ1 H1 → RS K ρ1 H1 s1 → R H ρ1 H1 a v → Post K W R2 ρ1 H1 Q (f a s1) → Q1 v H1) : Post K W R ρ H Q1 r := by
  cases r with
  | ok a s => exact fun ρ' H' v e rs rr => k a s ρ' H' v e rs rr (Post.mono b e h)
  | ex x s => exact h
  | no => exact h
/-- .. the end told from further back -/
theorem Post.bindB {ρ0 : List Addr} {H0 : Hp} {Q : δ → Hp → Prop} {Q1 : β → Hp → Prop} {r : Res α} {f : α → Sto → Res γ} (e0 : Ext K ρ0 H0 ρ H) (h : Post K W R2 ρ0 H0 Q (r.bind f))
    (k : ∀ a s1 ρ1 H1 v, Ext K ρ H ρ1 H1 → RS K ρ1 H1 s1 → R H ρ1 H1 a v → Post K W R2 ρ0 H0 Q (f a s1) → Q1 v H1) : Post K W R ρ H Q1 r := by
  cases r with
  | ok a s => exact fun ρ' H' v e rs rr => k a s ρ' H' v e rs rr h
  | ex x s => exact fun ρ' H' e rs => h ρ' H' (e0.trans e) rs
  | no => exact h
theorem Post.imp {Q Q1 : β → Hp → Prop} (hQ : ∀ v H', Q v H' → Q1 v H') : ∀ {r : Res α}, Post K W R ρ H Q r → Post K W R ρ H Q1 r
  | .ok a s, h => fun ρ' H' v e' rs r => hQ _ _ (h ρ' H' v e' rs r)
  | .ex x s, h => h
  | .no, h => h
end
abbrev rRR (K : Kw) : Hp → List Addr → Hp → RD → V → Prop := RR K
abbrev rRV (K : Kw) : Hp → List Addr → Hp → D → V → Prop := fun _ ρ H d v => RV K ρ H d v
abbrev rRVs (K : Kw) : Hp → List Addr → Hp → List D → List V → Prop := fun _ ρ H d v => RVs K ρ H d v
abbrev rB : Hp → List Addr → Hp → Bool → Bool → Prop := fun _ _ _ a b => a = b
section
variable {K : Kw}
theorem bkRR : Bk K (rRR K) := fun ρ H ρ1 H1 ρ' H' a v e h => by
  cases a with
  | d x => exact h
  | l xs =>
    obtain ⟨a, vs, e1, e2, e3, e4, e5⟩ := h
    exact ⟨a, vs, e1, e2, e3, e4, e.bk a e5⟩
  | m kvs =>
    obtain ⟨a, e1, e2, e4, e5⟩ := h
    exact ⟨a, e1, e2, e4, e.bk a e5⟩
theorem bkRV : Bk K (rRV K) := fun _ _ _ _ _ _ _ _ _ h => h
theorem bkRVs : Bk K (rRVs K) := fun _ _ _ _ _ _ _ _ _ h => h
theorem bkB : Bk K rB := fun _ _ _ _ _ _ _ _ _ h => h
end

/-! ### reading -/
section
variable {K : Kw} {ρ : List Addr} {H H0 : Hp} {s : Sto}
/-! dicts -/
theorem rvs_nil {vs : List V} (h : RVs K ρ H [] vs) : vs = [] := by unfold RVs at h; exact h
theorem rvs_cons {d : D} {ds : List D} {vs : List V} (h : RVs K ρ H (d :: ds) vs) : ∃ v r, vs = v :: r ∧ RV K ρ H d v ∧ RVs K ρ H ds r := by unfold RVs at h; exact h
theorem keyK_D (k : Key) : keyK (keyD k) = some k := by cases k <;> rfl
theorem dlk_ok (k : Key) : ∀ {kvs : List (D × D)} {vs : List (Key × V)}, vs.map (fun p => keyD p.1) = kvs.map (·.1) → RVs K ρ H (kvs.map (·.2)) (vs.map (·.2)) → (∀ d, dlk kvs k = some d → ∃ v, valV vs k = some v ∧ RV K ρ H d v) ∧ (valV vs k).isSome = (dlk kvs k).isSome
  | [], vs, h1, _ => by
    have : vs = [] := by cases vs with | nil => rfl | cons _ _ => cases h1
    subst this
    exact ⟨fun d h => (by cases h), rfl⟩
  | (k0, d0) :: r, vs, h1, h2 => by
    cases vs with
    | nil => cases h1
    | cons v0 w =>
      obtain ⟨k1, v1⟩ := v0
      rw [List.map_cons, List.map_cons] at h1
      injection h1 with e1 h1
      have e1 : keyD k1 = k0 := e1
      subst e1
      rw [List.map_cons, List.map_cons] at h2
      obtain ⟨v, q, e, q1, q2⟩ := rvs_cons h2
      injection e with e3 e4
      have e3 : v1 = v := e3
      subst e3
      rw [← e4] at q2
      obtain ⟨i1, i2⟩ := dlk_ok k h1 q2
      by_cases hk : k1 = k
      · have a1 : dlk ((keyD k1, d0) :: r) k = some d0 := by unfold dlk; rw [List.find?_cons]; simp [keyK_D, hk]
        have a2 : valV ((k1, v1) :: w) k = some v1 := valV_pos hk
        rw [a1, a2]
        exact ⟨fun d h => (by cases h; exact ⟨v1, rfl, q1⟩), rfl⟩
      · have a1 : dlk ((keyD k1, d0) :: r) k = dlk r k := by unfold dlk; rw [List.find?_cons]; simp [keyK_D, hk]
        have a2 : valV ((k1, v1) :: w) k = valV w k := valV_neg hk
        rw [a1, a2]
        exact ⟨i1, i2⟩
theorem any_keys (k : Key) : ∀ {kvs : List (D × D)} {vs : List (Key × V)}, vs.map (fun p => keyD p.1) = kvs.map (·.1) → (vs.any fun p => decide (p.1 = k)) = kvs.any fun p => decide (keyK p.1 = some k)
  | [], vs, h => by
    cases vs with
    | nil => rfl
    | cons _ _ => cases h
  | p :: r, vs, h => by
    cases vs with
    | nil => cases h
    | cons q w =>
      rw [List.map_cons, List.map_cons] at h
      injection h with e1 h
      rw [List.any_cons, List.any_cons, any_keys k h, ← e1, keyK_D]
      simp
theorem rep_ok (k : Key) {d : D} {v : V} (hd : RV K ρ H d v) : ∀ {kvs : List (D × D)} {vs : List (Key × V)}, vs.map (fun p => keyD p.1) = kvs.map (·.1) → RVs K ρ H (kvs.map (·.2)) (vs.map (·.2)) →
    (vs.map fun p => if p.1 = k then (p.1, v) else p).map (fun p => keyD p.1) = (kvs.map fun p => if keyK p.1 = some k then (p.1, d) else p).map (·.1) ∧ RVs K ρ H ((kvs.map fun p => if keyK p.1 = some k then (p.1, d) else p).map (·.2)) ((vs.map fun p => if p.1 = k then (p.1, v) else p).map (·.2))
  | [], vs, h1, _ => by
    have : vs = [] := by cases vs with | nil => rfl | cons _ _ => cases h1
    subst this
    exact ⟨rfl, by show RVs _ _ _ [] _; unfold RVs; rfl⟩
  | (k0, d0) :: r, vs, h1, h2 => by
    cases vs with
    | nil => cases h1
    | cons v0 w =>
      obtain ⟨k1, v1⟩ := v0
      rw [List.map_cons, List.map_cons] at h1
      injection h1 with e1 h1
      have e1 : keyD k1 = k0 := e1
      subst e1
      rw [List.map_cons, List.map_cons] at h2
      obtain ⟨v2, q, e, q1, q2⟩ := rvs_cons h2
      injection e with e3 e4
      have e3 : v1 = v2 := e3
      subst e3
      rw [← e4] at q2
      obtain ⟨i1, i2⟩ := rep_ok k hd h1 q2
      by_cases hk : k1 = k
      · simp only [List.map_cons, keyK_D, hk, if_true] at i1 i2 ⊢
        refine ⟨by rw [i1], ?_⟩
        show RVs _ _ _ (_ :: _) _
        unfold RVs
        exact ⟨_, _, rfl, hd, i2⟩
      · have hk2 : ¬ (some k1 = some k) := fun z => hk (Option.some.inj z)
        simp only [List.map_cons, keyK_D, hk, hk2, if_false] at i1 i2 ⊢
        refine ⟨by rw [i1], ?_⟩
        show RVs _ _ _ (_ :: _) _
        unfold RVs
        exact ⟨_, _, rfl, q1, i2⟩
theorem dput_ok {k : Key} {d : D} {v : V} {kvs : List (D × D)} {vs : List (Key × V)} (hd : RV K ρ H d v) (h1 : vs.map (fun p => keyD p.1) = kvs.map (·.1)) (h2 : RVs K ρ H (kvs.map (·.2)) (vs.map (·.2))) :
    (putK vs k v).map (fun p => keyD p.1) = (dput kvs k d).map (·.1) ∧ RVs K ρ H ((dput kvs k d).map (·.2)) ((putK vs k v).map (·.2)) := by
  unfold putK dput
  rw [any_keys k h1]
  split
  · exact rep_ok k hd h1 h2
  · refine ⟨by rw [List.map_append, List.map_append, h1]; rfl, ?_⟩
    rw [List.map_append, List.map_append]
    refine h2.append ?_
    show RVs _ _ _ [d] [v]
    unfold RVs
    exact ⟨v, [], rfl, hd, by unfold RVs; rfl⟩
theorem zip_fst {α β : Type} : ∀ {ks : List α} {vs : List β}, ks.length = vs.length → (ks.zip vs).map (·.1) = ks ∧ (ks.zip vs).map (·.2) = vs
  | [], [], _ => ⟨rfl, rfl⟩
  | [], _ :: _, h => by cases h
  | _ :: _, [], h => by cases h
  | k :: ks, v :: vs, h => by
    obtain ⟨h1, h2⟩ := zip_fst (ks := ks) (vs := vs) (by simpa using h)
    exact ⟨by rw [List.zip_cons_cons, List.map_cons, h1], by rw [List.zip_cons_cons, List.map_cons, h2]⟩
/-- the dict that a result stands for -/
theorem anyD_ok {a : RD} {x : V} {kvs : List (D × D)} (rs : RS K ρ H s) (r : RR K H0 ρ H a x) (h : anyD s a = some kvs) : ∃ p : Addr, x = .ref p ∧ (ROb K ρ H p (.dct kvs) ∨ ∃ o vs, H p = some (.frz o (.dK vs)) ∧ vs.map (fun p => keyD p.1) = kvs.map (·.1) ∧ RVs K ρ H (kvs.map (·.2)) (vs.map (·.2))) := by
  unfold anyD at h
  split at h
  · cases h
    obtain ⟨p, rfl, h1, _⟩ := r
    exact ⟨p, rfl, .inl h1⟩
  · rename_i ks ds
    split at h
    · rename_i hl
      cases h
      obtain ⟨z1, z2⟩ := zip_fst hl
      unfold RR RV at r
      obtain ⟨p, o, vs, rfl, h1, h2, h3⟩ := r
      exact ⟨p, rfl, .inr ⟨o, vs, h1, by rw [z1]; exact h2, by rw [z2]; exact h3⟩⟩
    · cases h
  · rename_i i
    split at h
    · rename_i kvs' e
      cases h
      have hlt : i < ρ.length := by rw [rs.len]; exact (List.getElem?_eq_some_iff.mp e).1
      have q := rs.ob i _ _ e (List.getElem?_eq_getElem hlt)
      have r : RV K ρ H (.obj i) x := r
      unfold RV at r
      obtain ⟨a, rfl, ha⟩ := r
      rw [List.getElem?_eq_getElem hlt] at ha
      cases ha
      exact ⟨_, rfl, .inl q⟩
    · cases h
  · cases h
theorem dctAt_ok {a : RD} {x : V} {kvs : List (D × D)} (rs : RS K ρ H s) (r : RR K H0 ρ H a x) (h : dctAt s a = some kvs) : ∃ (p : Addr) (vs : List (Key × V)), x = .ref p ∧ Rd H p (.dK vs) ∧ vs.map (fun p => keyD p.1) = kvs.map (·.1) ∧ RVs K ρ H (kvs.map (·.2)) (vs.map (·.2)) := by
  unfold dctAt at h
  cases e : anyD s a with
  | none => rw [e] at h; cases h
  | some kvs' =>
    rw [e] at h
    have h : (if dK kvs' = true then some kvs' else none) = some kvs := h
    split at h
    · rename_i hk
      cases h
      obtain ⟨p, rfl, h1⟩ := anyD_ok rs r e
      rcases h1 with h1 | ⟨o, vs, h1, h2, h3⟩
      · obtain ⟨vs, q1, q2, q3⟩ := h1.dk hk
        exact ⟨p, vs, rfl, .inl q1, q2, q3⟩
      · exact ⟨p, vs, rfl, .inr ⟨o, h1⟩, h2, h3⟩
    · cases h
theorem keyR_ok {a : RD} {x : V} {k : Key} (r : RR K H0 ρ H a x) (h : keyR a = some k) : x = kV k := by
  unfold keyR at h
  split at h
  · rename_i d
    have r : RV K ρ H d x := r
    unfold keyK at h
    split at h
    · cases h
      unfold RV at r
      exact r
    · cases h
      unfold RV at r
      exact r
    · cases h
  · cases h
theorem lstAt_ok {i : Nat} {xs : List D} (rs : RS K ρ H s) (h : lstAt s i = some xs) : ∃ p vs, ρ[i]? = some p ∧ H p = some (.lst vs) ∧ RVs K ρ H xs vs := by
  unfold lstAt at h
  split at h
  · rename_i ys e
    cases h
    exact rs.lstAt e
  · cases h
theorem asL_ok {a : RD} {x : V} {xs : List D} (rs : RS K ρ H s) (r : RR K H0 ρ H a x) (h : asL s a = some xs) : ∃ p vs, x = .ref p ∧ SqL K H p vs ∧ RVs K ρ H xs vs := by
  unfold asL at h
  split at h
  · cases h
    obtain ⟨a, vs, e1, e2, e3, _⟩ := r
    exact ⟨a, vs, e1, SqL.of e2, e3⟩
  · cases h
    unfold RR RV at r
    obtain ⟨a, vs, e1, e2, e3⟩ := r
    exact ⟨a, vs, e1, e2.sql, e3⟩
  · unfold RR RV at r
    obtain ⟨a, e1, e2⟩ := r
    obtain ⟨p, vs, h1, h2, h3⟩ := lstAt_ok rs h
    rw [e2] at h1
    cases h1
    exact ⟨a, vs, e1, SqL.of h2, h3⟩
  · cases h
theorem asQ_ok {a : RD} {x : V} {xs : List D} (rs : RS K ρ H s) (r : RR K H0 ρ H a x) (h : asQ s a = some xs) : ∃ p vs, x = .ref p ∧ (SqL K H p vs ∨ SqT K H p vs) ∧ RVs K ρ H xs vs := by
  unfold asQ at h
  split at h
  · obtain ⟨p, vs, h1, h2, h3⟩ := asL_ok (s := s) rs r (show asL s (.l _) = some xs from h)
    exact ⟨p, vs, h1, .inl h2, h3⟩
  · obtain ⟨p, vs, h1, h2, h3⟩ := asL_ok (s := s) rs r (show asL s (.d (.lf _)) = some xs from h)
    exact ⟨p, vs, h1, .inl h2, h3⟩
  · obtain ⟨p, vs, h1, h2, h3⟩ := asL_ok (s := s) rs r (show asL s (.d (.obj _)) = some xs from h)
    exact ⟨p, vs, h1, .inl h2, h3⟩
  · cases h
    unfold RR RV at r
    obtain ⟨a, vs, e1, e2, e3⟩ := r
    exact ⟨a, vs, e1, .inr e2, e3⟩
  · cases h
mutual
theorem pyW_ok {g : Nat → Option PyData} (hg : ∀ (i : Nat) (a : Addr) (p : PyData), g i = some p → ρ[i]? = some a → Dp K H (.ref a) p) : ∀ (d : D) (v : V) (p : PyData), RV K ρ H d v → pyW g d = some p → Dp K H v p
  | .non, v, p, h, e => by
    unfold RV at h; unfold pyW at e; cases e; subst h; exact .non
  | .bl b, v, p, h, e => by
    unfold RV at h; unfold pyW at e; cases e; subst h; exact .bl b
  | .int b, v, p, h, e => by
    unfold RV at h; unfold pyW at e; cases e; subst h; exact .int b
  | .str b, v, p, h, e => by
    unfold RV at h; unfold pyW at e; cases e; subst h; exact .str b
  | .tup ds, v, p, h, e => by
    unfold RV at h
    unfold pyW at e
    obtain ⟨a, vs, rfl, h2, h3⟩ := h
    cases q : pyWs g ds with
    | none => rw [q] at e; cases e
    | some ps =>
      rw [q] at e
      cases e
      exact .tup h2 (pyWs_ok hg ds vs ps h3 q)
  | .lf ds, v, p, h, e => by
    unfold RV at h
    unfold pyW at e
    obtain ⟨a, vs, rfl, h2, h3⟩ := h
    cases q : pyWs g ds with
    | none => rw [q] at e; cases e
    | some ps =>
      rw [q] at e
      cases e
      exact .lst h2.sql (pyWs_ok hg ds vs ps h3 q)
  | .ld ks ds, v, p, h, e => by unfold pyW at e; cases e
  | .obj i, v, p, h, e => by
    unfold RV at h
    unfold pyW at e
    obtain ⟨a, rfl, h2⟩ := h
    exact hg i a p e h2
theorem pyWs_ok {g : Nat → Option PyData} (hg : ∀ (i : Nat) (a : Addr) (p : PyData), g i = some p → ρ[i]? = some a → Dp K H (.ref a) p) : ∀ (ds : List D) (vs : List V) (ps : List PyData), RVs K ρ H ds vs → pyWs g ds = some ps → DpAll K H vs ps
  | [], vs, ps, h, e => by
    unfold RVs at h
    unfold pyWs at e
    subst h
    cases e
    exact .nil
  | d :: ds, vs, ps, h, e => by
    unfold RVs at h
    unfold pyWs at e
    obtain ⟨v, r, rfl, h2, h3⟩ := h
    cases q : pyW g d with
    | none => rw [q] at e; cases e
    | some p =>
      rw [q] at e
      cases q2 : pyWs g ds with
      | none => rw [q2] at e; cases e
      | some pr =>
        rw [q2] at e
        cases e
        exact .cons (pyW_ok hg d v p h2 q) (pyWs_ok hg ds r pr h3 q2)
end
theorem mapM_ok {f : D → Option PyData} (hf : ∀ d v p, RV K ρ H d v → f d = some p → Dp K H v p) : ∀ {ds : List D} {vs : List V} {ps : List PyData}, RVs K ρ H ds vs → ds.mapM f = some ps → DpAll K H vs ps
  | [], vs, ps, h, e => by
    unfold RVs at h
    subst h
    rw [List.mapM_nil] at e
    cases e
    exact .nil
  | d :: ds, vs, ps, h, e => by
    unfold RVs at h
    obtain ⟨v, r, rfl, h2, h3⟩ := h
    rw [List.mapM_cons] at e
    cases q : f d with
    | none => rw [q] at e; cases e
    | some p =>
      rw [q] at e
      cases q2 : ds.mapM f with
      | none => rw [q2] at e; cases e
      | some pr =>
        rw [q2] at e
        cases e
        exact .cons (hf d v p h2 q) (mapM_ok hf h3 q2)
theorem pyN_ok (rs : RS K ρ H s) : ∀ (n : Nat) (d : D) (v : V) (p : PyData), RV K ρ H d v → pyN s n d = some p → Dp K H v p
  | 0, d, v, p, h, e => pyW_ok (fun i a p q => by cases q) d v p h e
  | n + 1, d, v, p, h, e => pyW_ok (fun i a p q ha => by
      split at q
      · rename_i xs ex
        cases q2 : xs.mapM (pyN s n) with
        | none => rw [q2] at q; cases q
        | some ps =>
          rw [q2] at q
          cases q
          obtain ⟨p2, vs, h1, h2, h3⟩ := rs.lstAt ex
          rw [ha] at h1
          cases h1
          exact .lst (SqL.of h2) (mapM_ok (pyN_ok rs n) h3 q2)
      · cases q) d v p h e
theorem pyR_ok {a : RD} {x : V} {p : PyData} (rs : RS K ρ H s) (r : RR K H0 ρ H a x) (h : pyR s a = some p) : Dp K H x p := by
  cases a with
  | d y => exact pyN_ok rs 3 y x p r h
  | l xs =>
    obtain ⟨a, vs, rfl, h2, h3, _⟩ := r
    unfold pyR at h
    simp only at h
    cases q2 : xs.mapM (pyN s 2) with
    | none => rw [q2] at h; cases h
    | some ps =>
      rw [q2] at h
      cases h
      exact .lst (SqL.of h2) (mapM_ok (pyN_ok rs 2) h3 q2)
  | m kvs => unfold pyR at h; cases h
end

/-! ### operators -/
/-- an operation of the interpreter as a rule -/
def rOp (K : Kw) (W : Wx) (op : Sto → RD → RD → Option RD) : R2 := fun x y H Q => ∃ H0 H0' ρ s a b, RS K ρ H s ∧ RR K H0 ρ H a x ∧ RR K H0' ρ H b y ∧ Post K W (rRR K) ρ H Q (ofO (op s a b) s)
/-- a comparison of the interpreter as a rule -/
def rCp (K : Kw) (op : Sto → RD → RD → Option Bool) : R2 := fun x y H Q => ∃ H0 H0' ρ s a b t, RS K ρ H s ∧ RR K H0 ρ H a x ∧ RR K H0' ρ H b y ∧ op s a b = some t ∧ Q (.bl t) H
section
variable {X : Cx} {W : Wx}
theorem post_int {K : Kw} {ρ : List Addr} {H : Hp} {s : Sto} {Q : VK} {k : Int} (rs : RS K ρ H s) (h : Post K W (rRR K) ρ H Q (.ok (.d (.int k)) s)) : Q (.int k) H :=
  h ρ H (.int k) .refl rs (by show RV _ _ _ _ _; unfold RV; rfl)
theorem post_laid {K : Kw} {ρ : List Addr} {H : Hp} {s : Sto} {Q : VK} {xs : List D} {vs : List V} (rs : RS K ρ H s) (r : RVs K ρ H xs vs) (h : Post K W (rRR K) ρ H Q (.ok (.l xs) s)) {p : Addr} (hp : H p = none) : Q (.ref p) (upd H p (.lst vs)) :=
  h ρ _ (.ref p) (Ext.laid hp) (rs.laid hp) ⟨p, vs, rfl, upd_same, RVs.mono (Ext.laid hp) xs vs r, rs.fresh hp, hp⟩
theorem post_tup {K : Kw} {ρ : List Addr} {H : Hp} {s : Sto} {Q : VK} {xs : List D} {vs : List V} (rs : RS K ρ H s) (r : RVs K ρ H xs vs) (h : Post K W (rRR K) ρ H Q (.ok (.d (.tup xs)) s)) {p : Addr} (hp : H p = none) : Q (.ref p) (upd H p (.tup vs)) :=
  h ρ _ (.ref p) (Ext.laid hp) (rs.laid hp) (by
    show RV _ _ _ _ _
    unfold RV
    exact ⟨p, vs, rfl, SqT.of upd_same, RVs.mono (Ext.laid hp) xs vs r⟩)
theorem post_val {K : Kw} {ρ : List Addr} {H : Hp} {s : Sto} {Q : VK} {d : D} {v : V} (rs : RS K ρ H s) (h : Post K W (rRR K) ρ H Q (.ok (.d d) s)) (r : RV K ρ H d v) : Q v H := h ρ H v .refl rs r
theorem rv_int {K : Kw} {ρ : List Addr} {H : Hp} {i : Int} {v : V} : RV K ρ H (.int i) v ↔ v = .int i := by unfold RV; exact Iff.rfl
theorem rv_str {K : Kw} {ρ : List Addr} {H : Hp} {i : Str} {v : V} : RV K ρ H (.str i) v ↔ v = .str i := by unfold RV; exact Iff.rfl
theorem rv_bl {K : Kw} {ρ : List Addr} {H : Hp} {i : Bool} {v : V} : RV K ρ H (.bl i) v ↔ v = .bl i := by unfold RV; exact Iff.rfl
theorem rv_non {K : Kw} {ρ : List Addr} {H : Hp} {v : V} : RV K ρ H .non v ↔ v = .non := by unfold RV; exact Iff.rfl
theorem rv_tup {K : Kw} {ρ : List Addr} {H : Hp} {ds : List D} {v : V} : RV K ρ H (.tup ds) v ↔ ∃ a vs, v = .ref a ∧ SqT K H a vs ∧ RVs K ρ H ds vs := by
  constructor
  · intro h; unfold RV at h; exact h
  · intro h; unfold RV; exact h
theorem rr_int {K : Kw} {ρ : List Addr} {H H0 : Hp} {i : Int} {v : V} (h : RR K H0 ρ H (.d (.int i)) v) : v = .int i := by unfold RR RV at h; exact h
theorem rr_str {K : Kw} {ρ : List Addr} {H H0 : Hp} {i : Str} {v : V} (h : RR K H0 ρ H (.d (.str i)) v) : v = .str i := by unfold RR RV at h; exact h
theorem rr_bl {K : Kw} {ρ : List Addr} {H H0 : Hp} {i : Bool} {v : V} (h : RR K H0 ρ H (.d (.bl i)) v) : v = .bl i := by unfold RR RV at h; exact h
theorem rr_non {K : Kw} {ρ : List Addr} {H H0 : Hp} {v : V} (h : RR K H0 ρ H (.d .non) v) : v = .non := by unfold RR RV at h; exact h
theorem rr_tup {K : Kw} {ρ : List Addr} {H H0 : Hp} {ds : List D} {v : V} (h : RR K H0 ρ H (.d (.tup ds)) v) : ∃ a vs, v = .ref a ∧ SqT K H a vs ∧ RVs K ρ H ds vs := by unfold RR RV at h; exact h
theorem asM_ok {K : Kw} {ρ : List Addr} {H H0 : Hp} {s : Sto} {a : RD} {x : V} {xs : List D} (rs : RS K ρ H s) (r : RR K H0 ρ H a x) (h : asM s a = some xs) : ∃ p vs, x = .ref p ∧ H p = some (.lst vs) ∧ RVs K ρ H xs vs := by
  unfold asM at h
  split at h
  · cases h
    obtain ⟨a, vs, e1, e2, e3, _⟩ := r
    exact ⟨a, vs, e1, e2, e3⟩
  · unfold RR RV at r
    obtain ⟨a, e1, e2⟩ := r
    obtain ⟨p, vs, h1, h2, h3⟩ := lstAt_ok rs h
    rw [e2] at h1
    cases h1
    exact ⟨a, vs, e1, h2, h3⟩
  · cases h
/-- list + list, what may be read alone too -/
def rCatF (K : PySem.W.Frag) : R2 := fun x y H Q => ∃ l b xs zs, x = .ref l ∧ y = .ref b ∧ SqL K H l xs ∧ SqL K H b zs ∧ xs.length + zs.length ≤ sizeLine ∧ ∀ p, H p = none → Q (.ref p) (upd H p (.lst (xs ++ zs)))
theorem op_catF : OpR X (binaryOp .Add) (rCatF X.K) := by
  intro pins s σ H x y v u Q I rx ry h
  obtain ⟨l, b, xs, zs, rfl, rfl, hH, hB, hz, q⟩ := h
  cases rx
  cases ry
  obtain ⟨its, r, ⟨o1, n, e, c1, d1, t1⟩, _⟩ := I.list hH
  obtain ⟨its2, r2, ⟨o2, n2, e2, c2, d2, t2⟩, _⟩ := I.list hB
  obtain ⟨k1, dd1, dt1, sl1⟩ := o1
  obtain ⟨k2, dd2, dt2, sl2⟩ := o2
  cases c1
  cases c2
  cases t1
  cases t2
  have h1 := r.length
  have h2 := r2.length
  have hz2 : its.toArray.size + its2.toArray.size ≤ sizeLine := by rw [List.size_toArray, List.size_toArray]; omega
  refine concat_meets ⟨_, e, rfl⟩ ⟨_, e2, rfl⟩ noFill_list_add seq_list_add PySem.F.slot_list_add PySem.F.entry_list_add (PySem.F.args_list_add_2 _ _) (list_addW l b its.toArray its2.toArray n n2 dd1 dd2 sl1 sl2 hz2) ⟨e, e2, ?_⟩
  have ea : its.toArray ++ its2.toArray = (its ++ its2).toArray := by simp
  rw [ea]
  exact ⟨.ref _, _, I.lnew (t' := s.toks) (r.append r2) (by rw [List.length_append]; omega), rfl, q _ I.fresh⟩
theorem op_ints (o : Bop) {pins : List (Addr × Obj)} {s : Shared} {σ : L2.St} {H : Hp} {i j : Int} {v u : Value} {Q : VK} (I : Inv X pins σ H s) (rx : RelV (.int i) v) (ry : RelV (.int j) u)
    {k : Int} (hk : binI o i j = some k) (q : Q (.int k) H) : wpAny (model X.prog X.w) X.A (binaryOp o.op v u) (EP X pins σ Q) X.xe s := by
  cases o with
  | add => cases hk; exact op_add pins s σ H _ _ v u Q I rx ry ⟨i, j, rfl, rfl, q⟩
  | sub => cases hk; exact op_sub pins s σ H _ _ v u Q I rx ry ⟨i, j, rfl, rfl, q⟩
  | mul =>
    unfold binI at hk
    simp only at hk
    split at hk
    · rename_i c; cases hk; exact op_mul pins s σ H _ _ v u Q I rx ry ⟨i, j, rfl, rfl, c, q⟩
    · cases hk
  | fdiv =>
    unfold binI at hk
    simp only at hk
    split at hk
    · rename_i c
      cases hk
      rcases c with c | c
      · exact op_fdivN pins s σ H _ _ v u Q I rx ry ⟨i, j, rfl, rfl, c, q⟩
      · refine op_fdivW pins s σ H _ _ v u Q I rx ry ⟨i, j, rfl, rfl, c, ?_⟩
        show Q (.int (i / j)) H
        rw [← Int.fdiv_eq_ediv_of_nonneg i (Int.le_of_lt c.1)]
        exact q
    · cases hk
  | mod =>
    unfold binI at hk
    simp only at hk
    split at hk
    · rename_i c; cases hk; exact op_modN pins s σ H _ _ v u Q I rx ry ⟨i, j, rfl, rfl, c, q⟩
    · cases hk
  | pow =>
    unfold binI at hk
    simp only at hk
    split at hk
    · rename_i c; cases hk; exact op_pow pins s σ H _ _ v u Q I rx ry ⟨i, j, rfl, rfl, c, q⟩
    · cases hk
theorem op_bin (o : Bop) : OpR X (binaryOp o.op) (rOp X.kw W (binR o)) := by
  intro pins s σ H x y v u Q I rx ry h
  obtain ⟨H0, H0', ρ, st, a, b, rs, ra, rb, h⟩ := h
  unfold binR at h
  split at h
  · rename_i i j
    cases rr_int ra
    cases rr_int rb
    cases hk : binI o i j with
    | none => rw [hk] at h; exact h.elim
    | some k =>
      rw [hk] at h
      exact op_ints o I rx ry hk (post_val rs h (rv_int.mpr rfl))
  · rename_i i j
    cases rr_str ra
    cases rr_str rb
    split at h
    · rename_i c
      obtain ⟨rfl, hz⟩ := c
      exact op_add_str pins s σ H _ _ v u Q I rx ry ⟨i, j, rfl, rfl, hz, post_val rs h (rv_str.mpr rfl)⟩
    · exact h.elim
  · rename_i ds es
    obtain ⟨p, vs, rfl, h1, h2⟩ := rr_tup ra
    obtain ⟨q, us, rfl, h3, h4⟩ := rr_tup rb
    split at h
    · rename_i c
      subst c
      unfold catR at h
      split at h
      · rename_i hz
        have r12 := RVs.append h2 h4
        refine op_catA pins s σ H _ _ v u Q I rx ry ⟨p, q, vs, us, rfl, rfl, h1, h3, by rw [h2.length, h4.length]; exact hz, fun e => ?_, fun _ e => ?_, fun _ _ t ht => ?_⟩
        · refine post_val rs h (rv_tup.mpr ⟨q, us, rfl, h3, ?_⟩)
          subst e
          exact r12
        · refine post_val rs h (rv_tup.mpr ⟨p, vs, rfl, h1, ?_⟩)
          subst e
          rw [List.append_nil] at r12
          exact r12
        · exact post_tup rs r12 h ht
      · exact h.elim
    · exact h.elim
  · split at h
    · rename_i xs ys ex ey
      split at h
      · rename_i c
        subst c
        unfold catR at h
        split at h
        · rename_i hz
          obtain ⟨p, vs, rfl, h1, h2⟩ := asL_ok rs ra ex
          obtain ⟨q, us, rfl, h3, h4⟩ := asL_ok rs rb ey
          exact op_catF pins s σ H _ _ v u Q I rx ry ⟨p, q, vs, us, rfl, rfl, h1, h3, by rw [h2.length, h4.length]; exact hz, fun t ht => post_laid rs (RVs.append h2 h4) h ht⟩
        · exact h.elim
      · exact h.elim
    · exact h.elim
/-! comparisons -/
theorem eqE_ok {K : Kw} {ρ : List Addr} {H H0 H0' : Hp} {a b : RD} {x y : V} {t : Bool} (ra : RR K H0 ρ H a x) (rb : RR K H0' ρ H b y) (h : eqE a b = some t) :
    ∃ p q vs, x = .ref p ∧ y = .ref q ∧ SqT K H p vs ∧ SqT K H q [] ∧ t = vs.isEmpty := by
  unfold eqE at h
  split at h
  · rename_i xs
    cases h
    obtain ⟨p, vs, rfl, h1, h2⟩ := rr_tup ra
    obtain ⟨q, us, rfl, h3, h4⟩ := rr_tup rb
    cases rvs_nil h4
    refine ⟨p, q, vs, rfl, rfl, h1, h3, ?_⟩
    have := h2.length
    cases xs <;> cases vs <;> first | rfl | cases this
  · cases h
theorem eqR_ok {K : Kw} {ρ : List Addr} {H H0 H0' : Hp} {s : Sto} {a b : RD} {x y : V} {t : Bool} (rs : RS K ρ H s) (ra : RR K H0 ρ H a x) (rb : RR K H0' ρ H b y) (h : eqR s a b = some t) :
    (∃ d e, Dp K H x d ∧ Dp K H y e ∧ SeqAt.shaped d = true ∧ SeqAt.shaped e = true ∧ t = PyData.eqv d e) ∨ ∃ p q vs, x = .ref p ∧ y = .ref q ∧ SqT K H p vs ∧ SqT K H q [] ∧ t = vs.isEmpty := by
  unfold eqR at h
  split at h
  · rename_i p q ep eq
    split at h
    · rename_i c
      cases h
      exact .inl ⟨p, q, pyR_ok rs ra ep, pyR_ok rs rb eq, c.1, c.2, rfl⟩
    · exact .inr (eqE_ok ra rb h)
  · exact .inr (eqE_ok ra rb h)
/-- a tuple against () -/
theorem eq_none {neg : Bool} {pins : List (Addr × Obj)} {s : Shared} {σ : L2.St} {H : Hp} {p q : Addr} {vs : List V} {Q : VK} (hu : X.A.units + 65 < cLine) (I : Inv X pins σ H s)
    (hp : SqT X.K H p vs) (hq : SqT X.K H q []) (h : Q (.bl (if neg then !vs.isEmpty else vs.isEmpty)) H) :
    wpAny (model X.prog X.w) X.A (compareOp (if neg then .NotEq else .Eq) (.ref p) (.ref q)) (EP X pins σ Q) X.xe s := by
  obtain ⟨its, rv, ⟨o, h1, h2, n, h3⟩, _⟩ := I.tuple hp
  obtain ⟨js, rw_, ⟨o', k1, k2, n', k3⟩, _⟩ := I.tuple hq
  have hl : s.heap.IsTuple p its.toArray := ⟨o, h1, h2, n, h3⟩
  have hb : s.heap.IsTuple q js.toArray := ⟨o', k1, k2, n', k3⟩
  have hj : js = [] := by cases rw_; rfl
  subst hj
  have hv : vs.isEmpty = (its.toArray.size == 0) := by
    have := rv.length
    cases its <;> cases vs <;> first | rfl | cases this
  have hc : X.A.units < cLine := by omega
  have he : ∀ j (h1 : j < its.toArray.size) (h2 : j < (([] : List Value).toArray).size), SeqAt.EqAt X.A.in1 s its.toArray[j] ([] : List Value).toArray[j] ((fun _ => true) j) := fun j _ h2 => absurd h2 (by simp)
  have hz : ((List.range (min its.toArray.size (([] : List Value).toArray).size)).all (fun _ => true) && its.toArray.size == (([] : List Value).toArray).size) = vs.isEmpty := by
    rw [hv]
    simp
  cases neg with
  | false => exact SeqAt.eq_tupleAt hl hb hc he ⟨.bl _, H, I, rfl, by rw [hz]; exact h⟩
  | true =>
    have r := SeqAt.RcNeAt.tuples hl hb hc he
    rw [hz] at r
    exact r X.prog X.w X.xe (EP X pins σ Q) ⟨.bl _, H, I, rfl, h⟩
theorem inR_ok {K : Kw} {ρ : List Addr} {H H0 H0' : Hp} {s : Sto} {a b : RD} {x y : V} {t : Bool} (rs : RS K ρ H s) (ra : RR K H0 ρ H a x) (rb : RR K H0' ρ H b y) (h : inR s a b = some t) :
    (∃ i j, x = .str i ∧ y = .str j ∧ t = strIn i j) ∨ ∃ d qs p vs, Dp K H x d ∧ y = .ref p ∧ (SqL K H p vs ∨ SqT K H p vs) ∧ DpAll K H vs qs ∧ SeqAt.shaped d = true ∧ SeqAt.shaped (.list qs) = true ∧ t = qs.any fun z => PyData.eqv z d := by
  unfold inR at h
  split at h
  · rename_i i j
    cases h
    exact .inl ⟨i, j, rr_str ra, rr_str rb, rfl⟩
  · split at h
    · rename_i qs p eq ep
      split at h
      · rename_i c
        cases h
        cases e : asQ s b with
        | none => rw [e] at eq; cases eq
        | some ys =>
          rw [e] at eq
          obtain ⟨l, vs, h1, h2, h3⟩ := asQ_ok rs rb e
          exact .inr ⟨p, qs, l, vs, pyR_ok rs ra ep, h1, h2, mapM_ok (pyN_ok rs 2) h3 eq, c.1, c.2, rfl⟩
      · cases h
    · cases h
theorem in_tup {neg : Bool} {pins : List (Addr × Obj)} {s : Shared} {σ : L2.St} {H : Hp} {x : V} {v : Value} {d : PyData} {qs : List PyData} {p : Addr} {vs : List V} {Q : VK} (hu : X.A.units + 65 < cLine) (I : Inv X pins σ H s) (rx : RelV x v) (hd : Dp X.K H x d)
    (hq : SqT X.K H p vs) (hv : DpAll X.K H vs qs) (sd : SeqAt.shaped d = true) (sq : SeqAt.shaped (.list qs) = true) (q : Q (.bl (if neg then !(qs.any fun z => PyData.eqv z d) else qs.any fun z => PyData.eqv z d)) H) :
    wpAny (model X.prog X.w) X.A (compareOp (if neg then .NotIn else .In) v (.ref p)) (EP X pins σ Q) X.xe s := by
  obtain ⟨as, r1⟩ := Dp.reads I d x v hd rx
  obtain ⟨its, rv, ⟨o, ho, hc, n, hdd⟩, _⟩ := I.tuple hq
  obtain ⟨bs, r2⟩ := Dp.readsAll I qs _ its hv rv
  have hlay : PyData.canLayAll0 qs = true := by
    have := SeqAt.canLay_of_shaped sq
    simpa [PyData.canLay0] using this
  cases neg with
  | false => exact SeqAt.in_tuple_reads (Reads.tuple ho hc hdd r2) r1 hlay (SeqAt.canLay_of_shaped sd) (room_in_shaped sd hu) ⟨.bl _, H, I, rfl, q⟩
  | true => exact SeqAt.notIn_tuple_reads (Reads.tuple ho hc hdd r2) r1 hlay (SeqAt.canLay_of_shaped sd) (room_in_shaped sd hu) ⟨.bl _, H, I, rfl, q⟩
theorem isR_ok {K : Kw} {ρ : List Addr} {H H0 H0' : Hp} {a b : RD} {x y : V} {t : Bool} (ra : RR K H0 ρ H a x) (rb : RR K H0' ρ H b y) (h : isR a b = some t) : (y = .non ∧ t = decide (x = .non)) ∨ ∃ i j : Bool, x = .bl i ∧ y = .bl j ∧ t = decide (i = j) := by
  unfold isR at h
  split at h
  · rename_i d
    refine .inl ⟨rr_non rb, ?_⟩
    have ra' : RV K ρ H d x := ra
    cases d with
    | non => cases h; cases rv_non.mp ra'; rfl
    | bl _ => cases h; cases rv_bl.mp ra'; rfl
    | int _ => cases h; cases rv_int.mp ra'; rfl
    | str _ => cases h; cases rv_str.mp ra'; rfl
    | tup _ => cases h; obtain ⟨_, _, rfl, _⟩ := rv_tup.mp ra'; rfl
    | lf _ => cases h; unfold RV at ra'; obtain ⟨_, _, rfl, _⟩ := ra'; rfl
    | ld _ _ => cases h; unfold RV at ra'; obtain ⟨_, _, _, rfl, _⟩ := ra'; rfl
    | obj _ => cases h; unfold RV at ra'; obtain ⟨_, rfl, _⟩ := ra'; rfl
  · cases h
    obtain ⟨_, _, rfl, _⟩ := ra
    exact .inl ⟨rr_non rb, rfl⟩
  · cases h
    exact .inr ⟨_, _, rr_bl ra, rr_bl rb, rfl⟩
  · cases h
theorem op_cmp (o : Cop) (hu : X.A.units + 65 < cLine) : OpR X (compareOp o.op) (rCp X.kw (cmpR o)) := by
  intro pins s σ H x y v u Q I rx ry h
  obtain ⟨H0, H0', ρ, st, a, b, t, rs, ra, rb, h, q⟩ := h
  have hlt : ∀ {a b : RD} {t : Bool}, ltR a b = some t → (∃ i j, a = .d (.int i) ∧ b = .d (.int j) ∧ t = decide (i < j)) ∨ ∃ i j, a = .d (.str i) ∧ b = .d (.str j) ∧ t = decide (i.cps.toList < j.cps.toList) := by
    intro a b t h
    unfold ltR at h
    split at h
    · cases h; exact .inl ⟨_, _, rfl, rfl, rfl⟩
    · cases h; exact .inr ⟨_, _, rfl, rfl, rfl⟩
    · cases h
  have hle : ∀ {a b : RD} {t : Bool}, leR a b = some t → (∃ i j, a = .d (.int i) ∧ b = .d (.int j) ∧ t = decide (i ≤ j)) ∨ ∃ i j, a = .d (.str i) ∧ b = .d (.str j) ∧ t = !decide (j.cps.toList < i.cps.toList) := by
    intro a b t h
    unfold leR at h
    split at h
    · cases h; exact .inl ⟨_, _, rfl, rfl, rfl⟩
    · cases h; exact .inr ⟨_, _, rfl, rfl, rfl⟩
    · cases h
  have his : ∀ {t : Bool}, isR a b = some t → (y = .non ∧ t = decide (x = .non)) ∨ ∃ i j : Bool, x = .bl i ∧ y = .bl j ∧ t = decide (i = j) := fun h => isR_ok ra rb h
  cases o with
  | eq =>
    rcases eqR_ok rs ra rb (show eqR st a b = some t from h) with ⟨d, e, h1, h2, h3, h4, rfl⟩ | ⟨p1, q1, vs, rfl, rfl, h1, h2, rfl⟩
    · exact op_eqD (by omega) pins s σ H x y v u Q I rx ry ⟨d, e, h1, h2, h3, h4, q⟩
    · cases rx
      cases ry
      exact eq_none (neg := false) hu I h1 h2 q
  | ne =>
    obtain ⟨t', ht, rfl⟩ := Option.map_eq_some_iff.mp (show (eqR st a b).map (!·) = some t from h)
    rcases eqR_ok rs ra rb ht with ⟨d, e, h1, h2, h3, h4, rfl⟩ | ⟨p1, q1, vs, rfl, rfl, h1, h2, rfl⟩
    · exact op_neD (by omega) pins s σ H x y v u Q I rx ry ⟨d, e, h1, h2, h3, h4, q⟩
    · cases rx
      cases ry
      exact eq_none (neg := true) hu I h1 h2 q
  | lt =>
    rcases hlt (show ltR a b = some t from h) with ⟨i, j, rfl, rfl, rfl⟩ | ⟨i, j, rfl, rfl, rfl⟩
    · exact op_lt pins s σ H x y v u Q I rx ry ⟨i, j, rr_int ra, rr_int rb, q⟩
    · exact op_lt_str pins s σ H x y v u Q I rx ry ⟨i, j, rr_str ra, rr_str rb, q⟩
  | gt =>
    rcases hlt (show ltR b a = some t from h) with ⟨i, j, rfl, rfl, rfl⟩ | ⟨i, j, rfl, rfl, rfl⟩
    · exact op_gt pins s σ H x y v u Q I rx ry ⟨j, i, rr_int ra, rr_int rb, q⟩
    · exact op_gt_str pins s σ H x y v u Q I rx ry ⟨j, i, rr_str ra, rr_str rb, q⟩
  | le =>
    rcases hle (show leR a b = some t from h) with ⟨i, j, rfl, rfl, rfl⟩ | ⟨i, j, rfl, rfl, rfl⟩
    · exact op_le pins s σ H x y v u Q I rx ry ⟨i, j, rr_int ra, rr_int rb, q⟩
    · exact op_le_str pins s σ H x y v u Q I rx ry ⟨i, j, rr_str ra, rr_str rb, q⟩
  | ge =>
    rcases hle (show leR b a = some t from h) with ⟨i, j, rfl, rfl, rfl⟩ | ⟨i, j, rfl, rfl, rfl⟩
    · exact op_ge pins s σ H x y v u Q I rx ry ⟨j, i, rr_int ra, rr_int rb, q⟩
    · exact op_ge_str pins s σ H x y v u Q I rx ry ⟨j, i, rr_str ra, rr_str rb, q⟩
  | is =>
    rcases his (show isR a b = some t from h) with ⟨h1, rfl⟩ | ⟨i, j, h1, h2, rfl⟩
    · exact op_isN pins s σ H x y v u Q I rx ry ⟨h1, q⟩
    · exact op_is_bl pins s σ H x y v u Q I rx ry ⟨i, j, h1, h2, q⟩
  | isn =>
    obtain ⟨t', ht, rfl⟩ := Option.map_eq_some_iff.mp (show (isR a b).map (!·) = some t from h)
    rcases his ht with ⟨h1, rfl⟩ | ⟨i, j, h1, h2, rfl⟩
    · exact op_notN pins s σ H x y v u Q I rx ry ⟨h1, q⟩
    · exact op_isnot_bl pins s σ H x y v u Q I rx ry ⟨i, j, h1, h2, q⟩
  | inn =>
    have h : hasR st a b = some t := h
    unfold hasR at h
    split at h
    · rename_i kvs ek
      obtain ⟨k, e1, rfl⟩ := Option.map_eq_some_iff.mp h
      obtain ⟨p, vs, rfl, hp, g1, g2⟩ := dctAt_ok rs rb ek
      cases ry
      have ex := keyR_ok ra e1
      subst ex
      rw [← (dlk_ok k g1 g2).2] at q
      exact d_in (by omega) I (.inl ⟨_, _, hp, rfl, rfl⟩) rx fun s' I' => ⟨.bl _, H, I', rfl, q⟩
    rcases inR_ok rs ra rb h with ⟨i, j, h1, h2, rfl⟩ | ⟨d, qs, p, vs, h1, rfl, h3, h4, h5, h6, rfl⟩
    · exact op_in_str pins s σ H x y v u Q I rx ry ⟨i, j, h1, h2, q⟩
    · cases ry
      rcases h3 with h3 | h3
      · exact op_inD hu pins s σ H x (.ref p) v _ Q I rx rfl ⟨d, qs, h1, .lst h3 h4, h5, h6, q⟩
      · exact in_tup (neg := false) hu I rx h1 h3 h4 h5 h6 q
  | nin =>
    obtain ⟨t', ht, rfl⟩ := Option.map_eq_some_iff.mp (show (hasR st a b).map (!·) = some t from h)
    unfold hasR at ht
    split at ht
    · rename_i kvs ek
      obtain ⟨k, e1, rfl⟩ := Option.map_eq_some_iff.mp ht
      obtain ⟨p, vs, rfl, hp, g1, g2⟩ := dctAt_ok rs rb ek
      cases ry
      have ex := keyR_ok ra e1
      subst ex
      rw [← (dlk_ok k g1 g2).2] at q
      exact d_notIn (by omega) I (.inl ⟨_, _, hp, rfl, rfl⟩) rx fun s' I' => ⟨.bl _, H, I', rfl, q⟩
    rcases inR_ok rs ra rb ht with ⟨i, j, h1, h2, rfl⟩ | ⟨d, qs, p, vs, h1, rfl, h3, h4, h5, h6, rfl⟩
    · exact op_notin_str pins s σ H x y v u Q I rx ry ⟨i, j, h1, h2, q⟩
    · cases ry
      rcases h3 with h3 | h3
      · exact op_notInD hu pins s σ H x (.ref p) v _ Q I rx rfl ⟨d, qs, h1, .lst h3 h4, h5, h6, q⟩
      · exact in_tup (neg := true) hu I rx h1 h3 h4 h5 h6 q
end
end Nv

set_option Elab.async false
set_option linter.all false
set_option maxRecDepth 100000
set_option autoImplicit false
/-! NvBi: built-ins, methods, subscripts keep what the interpreter says of them. -/
namespace Nv
open PySem PySem.Spec PyProof.Rows L2

/-- a built-in of one argument as a rule -/
def rC1 (K : Kw) (W : Wx) (op : Sto → RD → Option RD) : List V → Hp → VK → Prop := fun xs H Q => ∃ x H0 ρ s a, xs = [x] ∧ RS K ρ H s ∧ RR K H0 ρ H a x ∧ Post K W (rRR K) ρ H Q (ofO (op s a) s)
def rC2 (K : Kw) (W : Wx) (op : Sto → RD → RD → Option RD) : List V → Hp → VK → Prop := fun xs H Q => ∃ x y H0 H0' ρ s a b, xs = [x, y] ∧ RS K ρ H s ∧ RR K H0 ρ H a x ∧ RR K H0' ρ H b y ∧ Post K W (rRR K) ρ H Q (ofO (op s a b) s)
/-- a method as a rule: the receiver is in the store or a value -/
def rM (K : Kw) (W : Wx) (op : D → Sto → Res RD) : V → List V → Hp → VK → Prop := fun x xs H Q => ∃ ρ s d, xs = [] ∧ RS K ρ H s ∧ RV K ρ H d x ∧ Post K W (rRR K) ρ H Q (op d s)
def rM1 (K : Kw) (W : Wx) (op : D → RD → Sto → Res RD) : V → List V → Hp → VK → Prop := fun x xs H Q => ∃ y H0 ρ s d a, xs = [y] ∧ RS K ρ H s ∧ RV K ρ H d x ∧ RR K H0 ρ H a y ∧ Post K W (rRR K) ρ H Q (op d a s)
def B1.val : B1 → Value
  | .len => .builtin "len" | .tuple => .type "tuple" | .list => .type "list" | .all => .builtin "all" | .any => .builtin "any" | .sum => .builtin "sum" | .int => .type "int" | .abs => .builtin "abs" | .sorted => .builtin "sorted"
def B2.val : B2 → Value
  | .max => .builtin "max" | .min => .builtin "min"
section
variable {K : Kw} {ρ : List Addr} {H H0 : Hp} {s : Sto}
theorem blsOf_ok : ∀ {ds : List D} {vs : List V} {bs : List Bool}, RVs K ρ H ds vs → blsOf ds = some bs → vs = bs.map V.bl
  | [], vs, bs, h, e => by unfold RVs at h; unfold blsOf at e; subst h; cases e; rfl
  | d :: ds, vs, bs, h, e => by
    unfold RVs at h
    obtain ⟨v, r, rfl, h2, h3⟩ := h
    cases d with
    | bl b =>
      unfold blsOf at e
      cases q : blsOf ds with
      | none => rw [q] at e; cases e
      | some cs =>
        rw [q] at e
        cases e
        rw [blsOf_ok h3 q, rv_bl.mp h2]
        rfl
    | _ => unfold blsOf at e; cases e
theorem intsOf_ok : ∀ {ds : List D} {vs : List V} {bs : List Int}, RVs K ρ H ds vs → intsOf ds = some bs → vs = bs.map V.int
  | [], vs, bs, h, e => by unfold RVs at h; unfold intsOf at e; subst h; cases e; rfl
  | d :: ds, vs, bs, h, e => by
    unfold RVs at h
    obtain ⟨v, r, rfl, h2, h3⟩ := h
    cases d with
    | int b =>
      unfold intsOf at e
      cases q : intsOf ds with
      | none => rw [q] at e; cases e
      | some cs =>
        rw [q] at e
        cases e
        rw [intsOf_ok h3 q, rv_int.mp h2]
        rfl
    | _ => unfold intsOf at e; cases e
theorem bindo {α β : Type} {o : Option α} {f : α → Option β} {b : β} (h : o.bind f = some b) : ∃ a, o = some a ∧ f a = some b := by
  cases o with
  | none => cases h
  | some a => exact ⟨a, rfl, h⟩
theorem post_o {W : Wx} {Q : VK} {o : Option RD} (h : Post K W (rRR K) ρ H Q (ofO o s)) : ∃ a, o = some a ∧ Post K W (rRR K) ρ H Q (.ok a s) := by
  cases o with
  | none => exact h.elim
  | some a => exact ⟨a, rfl, h⟩
end
/-! texts in order -/
theorem cps_le : ∀ a b : List Nat, ltCps b a = false → a ≤ b
  | [], b, _ => List.nil_le b
  | x :: a, [], h => by simp [ltCps] at h
  | x :: a, y :: b, h => by
    unfold ltCps at h
    rw [List.cons_le_cons_iff]
    by_cases h1 : x < y
    · exact .inl h1
    · by_cases h2 : y < x
      · simp [h2] at h
      · have e : x = y := by omega
        subst e
        simp at h
        exact .inr ⟨rfl, cps_le a b h⟩
theorem rising_pw : ∀ (p : Str) (l : List Str), risingS p l = true → (∀ x ∈ l, leS p x = true) ∧ l.Pairwise fun a b => leS a b = true
  | p, [], _ => ⟨fun x hx => (by cases hx), .nil⟩
  | p, x :: r, h => by
    unfold risingS at h
    rw [Bool.and_eq_true, Bool.not_eq_true'] at h
    have h0 : p.cps.toList ≤ x.cps.toList := cps_le _ _ h.1
    obtain ⟨i1, i2⟩ := rising_pw x r h.2
    refine ⟨fun y hy => ?_, .cons i1 i2⟩
    rcases List.mem_cons.mp hy with e | z
    · rw [e]; exact decide_eq_true h0
    · exact decide_eq_true (List.le_trans h0 (of_decide_eq_true (i1 y z)))
theorem sorted_pw (l : List Str) (h : sortedS l = true) : l.Pairwise fun a b => leS a b = true := by
  cases l with
  | nil => exact .nil
  | cons x r =>
    obtain ⟨i1, i2⟩ := rising_pw x r h
    exact .cons i1 i2
theorem sorted_is {ys xs : List Str} (p : ys.Perm xs) (h : sortedS ys = true) : ys = xs.mergeSort leS := by
  refine List.Perm.eq_of_pairwise (le := fun a b => leS a b = true) (fun a b _ _ p q => ?_) (sorted_pw ys h) ?_ (p.trans (List.mergeSort_perm _ _).symm)
  · have := List.le_antisymm (of_decide_eq_true p) (of_decide_eq_true q)
    cases a; cases b
    simpa using this
  · exact List.pairwise_mergeSort (le := leS) (fun a b c p q => decide_eq_true (List.le_trans (of_decide_eq_true p) (of_decide_eq_true q))) (fun a b => by
      rcases List.le_total a.cps.toList b.cps.toList with p | p <;> simp [leS, p]) xs
theorem rvs_str {K : Kw} {ρ : List Addr} {H : Hp} : ∀ ss : List Str, RVs K ρ H (ss.map D.str) (ss.map V.str)
  | [] => by show RVs _ _ _ [] _; unfold RVs; rfl
  | x :: r => by
    show RVs _ _ _ (.str x :: r.map D.str) _
    unfold RVs
    exact ⟨.str x, _, rfl, rv_str.mpr rfl, rvs_str r⟩
theorem keys_str : ∀ {kvs : List (D × D)} {vs : List (Key × V)} {ss : List Str}, vs.map (fun p => keyD p.1) = kvs.map (·.1) → strsOf (kvs.map (·.1)) = some ss → vs.map (·.1) = ss.map Sum.inr
  | [], vs, ss, h, e => by
    cases vs with
    | nil => cases e; rfl
    | cons _ _ => cases h
  | (k0, d0) :: r, vs, ss, h, e => by
    cases vs with
    | nil => cases h
    | cons q w =>
      obtain ⟨k1, v1⟩ := q
      rw [List.map_cons, List.map_cons] at h
      injection h with e1 h
      have e1 : keyD k1 = k0 := e1
      subst e1
      cases k1 with
      | inl i => rw [List.map_cons] at e; unfold strsOf at e; cases e
      | inr x =>
        rw [List.map_cons] at e
        have e : (strsOf (r.map (·.1))).map (x :: ·) = some ss := e
        obtain ⟨ss', e2, rfl⟩ := Option.map_eq_some_iff.mp e
        rw [List.map_cons, List.map_cons, keys_str h e2]
theorem strs_ok {K : Kw} {ρ : List Addr} {H : Hp} : ∀ {ds : List D} {vs : List V} {ss : List Str}, RVs K ρ H ds vs → strsOf ds = some ss → vs = ss.map V.str
  | [], vs, ss, h, e => by unfold RVs at h; unfold strsOf at e; subst h; cases e; rfl
  | d :: ds, vs, ss, h, e => by
    unfold RVs at h
    obtain ⟨v, r, rfl, h2, h3⟩ := h
    cases d with
    | str b =>
      unfold strsOf at e
      obtain ⟨cs, q, rfl⟩ := Option.map_eq_some_iff.mp e
      rw [strs_ok h3 q, rv_str.mp h2]
      rfl
    | _ => unfold strsOf at e; cases e
section
variable {X : Cx} {W : Wx}
theorem call_b1 (f : B1) (hc : X.calm = true) : CallR X f.val (rC1 X.kw W (b1R f)) := by
  intro pins s σ H xs us Q I r h
  obtain ⟨x, H0, ρ, st, a, rfl, rs, ra, h⟩ := h
  obtain ⟨d, e, h⟩ := post_o h
  cases f with
  | len =>
    unfold b1R at e
    simp only at e
    split at e
    · rename_i z
      split at e
      · rename_i c
        cases e
        exact call_len pins s σ H _ us Q I r ⟨x, z.length, rfl, by rw [rr_str ra]; exact ⟨c, rfl⟩, post_val rs h (rv_int.mpr rfl)⟩
      · cases e
    split at e
    · rename_i kvs ek
      cases e
      obtain ⟨p, vs, rfl, hp, g1, g2⟩ := dctAt_ok rs ra ek
      rw [Vals.ref1 r]
      have hl : vs.length = kvs.length := by
        have := congrArg List.length g1
        rwa [List.length_map, List.length_map] at this
      exact d_len I hp fun t s' I' => ⟨.int kvs.length, H, I', ⟨t, by rw [hl]⟩, post_val rs h (rv_int.mpr rfl)⟩
    · obtain ⟨ys, e1, e2⟩ := Option.map_eq_some_iff.mp e
      cases e2
      obtain ⟨p, vs, rfl, h1, h2⟩ := asQ_ok rs ra e1
      have hl := h2.length
      refine call_len pins s σ H _ us Q I r ⟨_, ys.length, rfl, ?_, post_val rs h (rv_int.mpr rfl)⟩
      rcases h1 with h1 | h1
      · exact .inl ⟨vs, h1, hl.symm⟩
      · exact .inr ⟨vs, h1, hl.symm⟩
  | tuple =>
    obtain ⟨ys, e1, e2⟩ := Option.map_eq_some_iff.mp (show (asQ st a).map _ = some d from e)
    cases e2
    obtain ⟨p, vs, rfl, h1, h2⟩ := asQ_ok rs ra e1
    refine call_tuple_of pins s σ H _ us Q I r ⟨p, vs, rfl, ?_⟩
    rcases h1 with h1 | h1
    · exact .inl ⟨h1, fun l hl => post_tup rs h2 h hl⟩
    · exact .inr ⟨h1, post_val rs h (rv_tup.mpr ⟨p, vs, rfl, h1, h2⟩)⟩
  | list =>
    obtain ⟨ys, e1, e2⟩ := Option.map_eq_some_iff.mp (show (asQ st a).map _ = some d from e)
    cases e2
    obtain ⟨p, vs, rfl, h1, h2⟩ := asQ_ok rs ra e1
    exact call_list_of pins s σ H _ us Q I r ⟨p, vs, rfl, h1, fun l hl => post_laid rs h2 h hl⟩
  | all =>
    obtain ⟨bs, e1, e2⟩ := Option.map_eq_some_iff.mp (show ((asL st a).bind blsOf).map _ = some d from e)
    cases e2
    obtain ⟨ys, e3, e4⟩ := bindo e1
    obtain ⟨p, vs, rfl, h1, h2⟩ := asL_ok rs ra e3
    refine cr_all hc pins s σ H _ us Q I r ⟨p, bs, rfl, ?_, post_val rs h (rv_bl.mpr rfl)⟩
    rw [← blsOf_ok h2 e4]; exact h1
  | any =>
    obtain ⟨bs, e1, e2⟩ := Option.map_eq_some_iff.mp (show ((asL st a).bind blsOf).map _ = some d from e)
    cases e2
    obtain ⟨ys, e3, e4⟩ := bindo e1
    obtain ⟨p, vs, rfl, h1, h2⟩ := asL_ok rs ra e3
    refine cr_any hc pins s σ H _ us Q I r ⟨p, bs, rfl, ?_, post_val rs h (rv_bl.mpr rfl)⟩
    rw [← blsOf_ok h2 e4]; exact h1
  | sum =>
    obtain ⟨bs, e1, e2⟩ := Option.map_eq_some_iff.mp (show ((asL st a).bind intsOf).map _ = some d from e)
    cases e2
    obtain ⟨ys, e3, e4⟩ := bindo e1
    obtain ⟨p, vs, rfl, h1, h2⟩ := asL_ok rs ra e3
    refine cr_sum hc pins s σ H _ us Q I r ⟨p, bs, rfl, ?_, post_val rs h (rv_int.mpr rfl)⟩
    rw [← intsOf_ok h2 e4]; exact h1
  | int =>
    unfold b1R at e
    simp only at e
    split at e
    · cases e
      exact call_int1 pins s σ H _ us Q I r (.inl ⟨_, by rw [rr_int ra], post_val rs h (rv_int.mpr rfl)⟩)
    · cases e
      exact call_int1 pins s σ H _ us Q I r (.inr ⟨_, by rw [rr_bl ra], post_val rs h (rv_int.mpr rfl)⟩)
    · cases e
  | abs =>
    unfold b1R at e
    simp only at e
    split at e
    · cases e
      exact call_abs pins s σ H _ us Q I r ⟨_, by rw [rr_int ra], post_val rs h (rv_int.mpr rfl)⟩
    · cases e
  | sorted =>
    unfold b1R at e
    simp only at e
    split at e
    · rename_i kvs ek
      obtain ⟨ss, e1, e2⟩ := bindo e
      split at e2
      · rename_i few
        cases e2
        obtain ⟨p, vs, rfl, hp, g1, g2⟩ := dctAt_ok rs ra ek
        refine call_sortedD hc pins s σ H _ us Q I r ⟨p, vs, ss, rfl, hp, keys_str g1 e1, few, fun ys q pm so hn => ?_⟩
        rw [sorted_is pm so]
        exact post_laid rs (rvs_str _) h hn
      · cases e2
    · obtain ⟨ss, e1, e2⟩ := bindo e
      split at e2
      · rename_i few
        cases e2
        obtain ⟨ds, e3, e4⟩ := bindo e1
        obtain ⟨p, vs, rfl, h1, h2⟩ := asL_ok rs ra e3
        refine cr_sortedS pins s σ H _ us Q I r ⟨p, ss, rfl, ?_, few, fun ys q pm so hn => ?_⟩
        · rw [← strs_ok h2 e4]; exact h1
        · rw [sorted_is pm so]
          exact post_laid rs (rvs_str _) h hn
      · cases e2
theorem call_b2 (f : B2) (hc : X.calm = true) : CallR X f.val (rC2 X.kw W (b2R f)) := by
  intro pins s σ H xs us Q I r h
  obtain ⟨x, y, H0, H0', ρ, st, a, b, rfl, rs, ra, rb, h⟩ := h
  obtain ⟨d, e, h⟩ := post_o h
  unfold b2R at e
  split at e
  · cases e
    exact call_max2 hc pins s σ H _ us Q I r ⟨_, _, by rw [rr_int ra, rr_int rb], post_val rs h (rv_int.mpr rfl)⟩
  · cases e
    exact call_min2 hc pins s σ H _ us Q I r ⟨_, _, by rw [rr_int ra, rr_int rb], post_val rs h (rv_int.mpr rfl)⟩
  · cases e
/-- isinstance(x, T) -/
theorem sqt_ty {K : PySem.W.Frag} {H : Hp} {a : Addr} {xs : List V} (h : SqT K H a xs) : TyX K H (.ref a) (.type "tuple") := by
  rcases h with (h | ⟨o, h⟩) | ⟨o, its, n, h1, h2, _⟩
  · exact .base (.tup h)
  · exact .fTuple h
  · exact .kTuple h1 h2
theorem dct_ty {K : PySem.W.Frag} {H : Hp} {a : Addr} {kvs : List (Key × V)} (h : Rd H a (.dK kvs)) : TyX K H (.ref a) (.type "dict") := by
  rcases h with h | ⟨o, h⟩
  · exact .base (.dK h)
  · exact .fDict h
theorem sql_ty {K : PySem.W.Frag} {H : Hp} {a : Addr} {xs : List V} (h : SqL K H a xs) : TyX K H (.ref a) (.type "list") := by
  rcases h with (h | ⟨o, h⟩) | ⟨o, its, n, h1, h2, _⟩
  · exact .base (.lst h)
  · exact .base (.frz h)
  · exact .kList h1 h2
theorem call_isin (t : Ty) : CallR X (.builtin "isinstance") (fun xs H Q => ∃ x H0 ρ s a, xs = [x, .ty t.name] ∧ RS X.kw ρ H s ∧ RR X.kw H0 ρ H a x ∧ Post X.kw W (rRR X.kw) ρ H Q (ofO ((isinR s t a).map fun b => RD.d (.bl b)) s)) := by
  intro pins s σ H xs us Q I r h
  obtain ⟨x, H0, ρ, st, a, rfl, rs, ra, h⟩ := h
  obtain ⟨d, e, h⟩ := post_o h
  obtain ⟨b, e1, e2⟩ := Option.map_eq_some_iff.mp e
  cases e2
  have q : Q (.bl b) H := post_val rs h (rv_bl.mpr rfl)
  have go : ∀ (n : String), TyX X.K H x (.type n) → kitB n t.name = some b → wpAny (model X.prog X.w) X.A (call (.builtin "isinstance") us) (EP X pins σ Q) X.xe s := fun n hn hk =>
    call_isi pins s σ H _ us Q I r ⟨x, .ty t.name, .type n, .type t.name, b, rfl, .ty _, hn, kit_ty hk, q⟩
  unfold isinR at e1
  split at e1
  · cases e1
    obtain ⟨p, vs, rfl, h1, _⟩ := ra
    exact go "list" (sql_ty (SqL.of h1)) (by cases t <;> decide +kernel)
  · cases e1
    rw [rr_non ra] at go
    exact go "NoneType" (.base .non) (by cases t <;> decide +kernel)
  · cases e1
    rw [rr_bl ra] at go
    exact go "bool" (.base (.bl _)) (by cases t <;> decide +kernel)
  · cases e1
    rw [rr_int ra] at go
    exact go "int" (.base (.int _)) (by cases t <;> decide +kernel)
  · cases e1
    rw [rr_str ra] at go
    exact go "str" (.base (.str _)) (by cases t <;> decide +kernel)
  · cases e1
    obtain ⟨p, vs, rfl, h1, _⟩ := rr_tup ra
    exact go "tuple" (sqt_ty h1) (by cases t <;> decide +kernel)
  · cases e1
    unfold RR RV at ra
    obtain ⟨p, vs, rfl, h1, _⟩ := ra
    exact go "list" (sql_ty h1.sql) (by cases t <;> decide +kernel)
  · split at e1
    · rename_i hk
      cases e1
      obtain ⟨p, rfl, h1, _⟩ := ra
      obtain ⟨vs, h1, _⟩ := h1.dk hk
      exact go "dict" (.base (.dK h1)) (by cases t <;> decide +kernel)
    · cases e1
  · cases e1
    unfold RR RV at ra
    obtain ⟨p, o, vs, rfl, h1, _⟩ := ra
    exact go "dict" (.fDict h1) (by cases t <;> decide +kernel)
  · split at e1
    · rename_i kvs ek
      cases e1
      obtain ⟨p, vs, rfl, hp, g1, g2⟩ := dctAt_ok rs ra ek
      exact go "dict" (dct_ty hp) (by cases t <;> decide +kernel)
    obtain ⟨ys, e2, e3⟩ := Option.map_eq_some_iff.mp e1
    cases e3
    unfold RR RV at ra
    obtain ⟨p, rfl, h1⟩ := ra
    obtain ⟨p', vs, h2, h3, _⟩ := lstAt_ok rs e2
    rw [h1] at h2
    cases h2
    exact go "list" (sql_ty (SqL.of h3)) (by cases t <;> decide +kernel)

/-! ### subscripts, slices -/
theorem atI_ok {K : Kw} {ρ : List Addr} {H : Hp} {xs : List D} {vs : List V} {i : Int} {d : D} (r : RVs K ρ H xs vs) (h : atI xs i = some d) : ∃ v, atI vs i = some v ∧ RV K ρ H d v := by
  unfold atI at h ⊢
  rw [r.length]
  cases e : ixN xs.length i with
  | none => rw [e] at h; cases h
  | some j =>
    rw [e] at h
    exact r.get h
theorem ix_any (hu : X.A.units + 1 < cLine) : IxR X (rOp X.kw W ixR) := by
  intro value slice pins s σ H x y v u Q I rx ry h hs
  obtain ⟨H0, H0', ρ, st, a, b, rs, ra, rb, h⟩ := h
  obtain ⟨d, e, h⟩ := post_o h
  unfold ixR at e
  split at e
  · rename_i kvs ek
    obtain ⟨k, e1, e2⟩ := bindo e
    obtain ⟨d0, e3, rfl⟩ := Option.map_eq_some_iff.mp e2
    obtain ⟨p, vs, rfl, hp, g1, g2⟩ := dctAt_ok rs ra ek
    obtain ⟨v0, q1, q2⟩ := (dlk_ok k g1 g2).1 d0 e3
    have ex := keyR_ok rb e1
    subst ex
    cases rx
    have g : DGet H p (kV k) (some v0) := by rw [← q1]; exact .inl ⟨_, _, hp, rfl, rfl⟩
    exact tail_any (dict_typeIs I g) PySem.F.slot_dict_getitem.lookup (d_getItem hu I g ry fun w' s3 I3 rw' => ⟨v0, H, I3, rw', post_val rs h q2⟩) hs
  unfold ixR0 at e
  split at e
  · rename_i i
    split at e
    · rename_i z _
      split at e
      · rename_i c
        obtain ⟨k, e1, e2⟩ := Option.map_eq_some_iff.mp e
        cases e2
        exact ix_str value slice pins s σ H x y v u Q I rx ry ⟨z, i, k, rr_str ra, rr_int rb, c, e1, post_val rs h (rv_str.mpr rfl)⟩ hs
      · cases e
    · obtain ⟨xs, e1, e2⟩ := bindo e
      obtain ⟨z, e3, e4⟩ := Option.map_eq_some_iff.mp e2
      cases e4
      obtain ⟨p, vs, h0, h1, h2⟩ := asQ_ok rs ra e1
      obtain ⟨v1, h3, h4⟩ := atI_ok h2 e3
      rcases h1 with h1 | h1
      · exact ix_list value slice pins s σ H x y v u Q I rx ry ⟨p, vs, i, v1, h0, rr_int rb, h1, h3, post_val rs h h4⟩ hs
      · exact ix_tup value slice pins s σ H x y v u Q I rx ry ⟨p, vs, i, v1, h0, rr_int rb, h1, h3, post_val rs h h4⟩ hs
  · cases e
theorem cut_ok {K : Kw} {ρ : List Addr} {H : Hp} {xs : List D} {vs : List V} (r : RVs K ρ H xs vs) (lo hi : Option Int) : RVs K ρ H (cutD xs lo hi) (cutV vs lo hi) := by
  unfold cutD cutV
  rw [r.length]
  exact (r.drop _).take _
theorem cutD_whole (xs : List D) (lo hi : Option Int) (h : HT.sIx xs.length 0 lo = 0 ∧ HT.sIx xs.length xs.length hi = xs.length) : cutD xs lo hi = xs := by
  unfold cutD
  rw [h.1, h.2, List.drop_zero, Nat.sub_zero, List.take_length]
theorem sl_any : SlR X (fun x lo hi H Q => ∃ H0 ρ s a, RS X.kw ρ H s ∧ RR X.kw H0 ρ H a x ∧ Post X.kw W (rRR X.kw) ρ H Q (ofO (slR s a lo hi) s)) := by
  intro pins s σ H x v vl vu lo hi sl Q I rx hs pl pu h
  obtain ⟨H0, ρ, st, a, rs, ra, h⟩ := h
  obtain ⟨d, e, h⟩ := post_o h
  unfold slR at e
  split at e
  · rename_i z
    split at e
    · rename_i c
      cases e
      exact sl_str pins s σ H x v vl vu lo hi sl Q I rx hs pl pu ⟨z, rr_str ra, c, post_val rs h (rv_str.mpr rfl)⟩
    · cases e
  · rename_i ds
    cases e
    obtain ⟨p, vs, h0, h1, h2⟩ := rr_tup ra
    refine sl_tupA pins s σ H x v vl vu lo hi sl Q I rx hs pl pu ⟨p, vs, h0, h1, fun hw => ?_, fun hw t ht => ?_⟩
    · rw [h2.length] at hw
      rw [cutD_whole ds lo hi hw] at h
      exact post_val rs h (rv_tup.mpr ⟨p, vs, rfl, h1, h2⟩)
    · exact post_tup rs (cut_ok h2 lo hi) h ht
  · obtain ⟨xs, e1, e2⟩ := Option.map_eq_some_iff.mp e
    cases e2
    obtain ⟨p, vs, h0, h1, h2⟩ := asL_ok rs ra e1
    exact sl_list pins s σ H x v vl vu lo hi sl Q I rx hs pl pu ⟨p, vs, h0, h1, fun t ht => post_laid rs (cut_ok h2 lo hi) h ht⟩

/-! ### methods of lists -/
theorem obj_lst {K : Kw} {ρ : List Addr} {H : Hp} {s : Sto} {i : Nat} {x : V} {xs : List D} (rs : RS K ρ H s) (r : RV K ρ H (.obj i) x) (h : s[i]? = some (.lst xs)) : ∃ p vs, x = .ref p ∧ ρ[i]? = some p ∧ H p = some (.lst vs) ∧ RVs K ρ H xs vs := by
  unfold RV at r
  obtain ⟨a, rfl, h2⟩ := r
  obtain ⟨p, vs, h3, h4, h5⟩ := rs.lstAt h
  rw [h2] at h3
  cases h3
  exact ⟨a, vs, rfl, h2, h4, h5⟩
theorem post_write {K : Kw} {ρ : List Addr} {H : Hp} {s : Sto} {Q : VK} {i : Nat} {p : Addr} {vs ws : List V} {xs : List D} {d : D} {v : V} (rs : RS K ρ H s) (hi : ρ[i]? = some p) (hp : H p = some (.lst vs)) (r : RVs K ρ H xs ws)
    (h : Post K W (rRR K) ρ H Q (.ok (.d d) (s.set i (.lst xs)))) (rd : RV K ρ H d v) : Q v (upd H p (.lst ws)) :=
  h ρ _ v (Ext.write hp (List.mem_of_getElem? hi)) (rs.write hi hp r) (RV.mono (Ext.write hp (List.mem_of_getElem? hi)) d v rd)
theorem mt_m0 (m : M0) : MtR X ("list." ++ m.name) (rM X.kw W (m0R m)) := by
  intro pins s σ H x xs v us Q I rx rv h
  obtain ⟨ρ, st, d, rfl, rs, rd, h⟩ := h
  unfold m0R at h
  split at h
  · rename_i i
    split at h
    · rename_i ys e
      obtain ⟨p, vs, rfl, h1, h2, h3⟩ := obj_lst rs rd e
      exact mt_reverse pins s σ H _ _ v us Q I rx rv ⟨p, vs, rfl, rfl, h2, post_write rs h1 h2 h3.reverse h (rv_non.mpr rfl)⟩
    · rename_i ys e
      obtain ⟨p, vs, rfl, h1, h2, h3⟩ := obj_lst rs rd e
      exact mt_clear pins s σ H _ _ v us Q I rx rv ⟨p, vs, rfl, rfl, h2, post_write rs h1 h2 .nil_ h (rv_non.mpr rfl)⟩
    · rename_i ys e
      obtain ⟨p, vs, rfl, h1, h2, h3⟩ := obj_lst rs rd e
      split at h
      · rename_i y ey
        obtain ⟨v1, h4, h5⟩ := h3.get ey
        exact mt_pop pins s σ H _ _ v us Q I rx rv ⟨p, vs, v1, rfl, rfl, h2, by rw [h3.length]; exact h4, post_write rs h1 h2 (by rw [List.dropLast_eq_take, List.dropLast_eq_take, h3.length]; exact h3.take _) h h5⟩
      · exact h.elim
    · exact h.elim
  · exact h.elim
theorem mt_m1 (m : M1) : MtR X ("list." ++ m.name) (rM1 X.kw W (m1R m)) := by
  intro pins s σ H x xs v us Q I rx rv h
  obtain ⟨y, H0, ρ, st, d, a, rfl, rs, rd, ra, h⟩ := h
  unfold m1R at h
  split at h
  · rename_i i
    split at h
    · rename_i ys z e
      obtain ⟨p, vs, rfl, h1, h2, h3⟩ := obj_lst rs rd e
      split at h
      · rename_i c
        exact mt_append pins s σ H _ _ v us Q I rx rv ⟨p, vs, y, rfl, rfl, h2, by rw [h3.length]; exact c, post_write rs h1 h2 (h3.append (.one ra)) h (rv_non.mpr rfl)⟩
      · exact h.elim
    · rename_i ys e
      obtain ⟨p, vs, rfl, h1, h2, h3⟩ := obj_lst rs rd e
      split at h
      · rename_i zs e2
        split at h
        · rename_i c
          obtain ⟨q, us', rfl, h4, h5⟩ := asM_ok rs ra e2
          exact mt_extend pins s σ H _ _ v us Q I rx rv ⟨p, q, vs, us', rfl, rfl, h2, h4, by rw [h3.length, h5.length]; exact c, post_write rs h1 h2 (h3.append h5) h (rv_non.mpr rfl)⟩
        · exact h.elim
      · exact h.elim
    · exact h.elim
  · exact h.elim
/-! ### stores -/
theorem set_any (hu : X.A.units + 1 < cLine) : PSet X (fun o i v H Q => ∃ ρ s p k d, RS X.kw ρ H s ∧ RV X.kw ρ H p o ∧ RV X.kw ρ H k i ∧ RV X.kw ρ H d v ∧
    match setR p k d s with
    | .ok _ s' => ∀ H', Ext X.kw ρ H ρ H' → RS X.kw ρ H' s' → Q H'
    | _ => False) := by
  intro pins s σ H o i v ov iv u Q I ro ri rv h
  obtain ⟨ρ, st, p, k, d, rs, rp, rk, rd, h⟩ := h
  split at h
  · rename_i r s' e
    unfold setR at e
    split at e
    · rename_i i0
      split at e
      · rename_i xs ex
        split at e
        · split at e
          · rename_i j ej
            cases e
            obtain ⟨q, vs, rfl, h1, h2, h3⟩ := obj_lst rs rp ex
            refine set_list pins s σ H _ _ v ov iv u Q I ro ri rv ⟨q, vs, _, j, rfl, rv_int.mp rk, h2, by rw [h3.length]; exact ej, ?_⟩
            exact h _ (Ext.write h2 (List.mem_of_getElem? h1)) (rs.write h1 h2 (RVs.set rd j h3))
          · cases e
        · cases e
      · rename_i kvs ex
        split at e
        · rename_i kk ek
          split at e
          · rename_i few
            cases e
            obtain ⟨q, vs, h1, h2, h3, h4⟩ := rs.dctAt ex few.2
            have rp : RV X.kw ρ H (.obj i0) o := rp
            unfold RV at rp
            obtain ⟨q', rfl, h5⟩ := rp
            rw [h1] at h5
            cases h5
            have hl : vs.length = kvs.length := by
              have := congrArg List.length h3
              rwa [List.length_map, List.length_map] at this
            have ei : i = kV kk := keyR_ok (H0 := H) (a := .d k) rk ek
            subst ei
            obtain ⟨g1, g2⟩ := dput_ok (k := kk) rd h3 h4
            exact set_dict hu pins s σ H _ _ v ov iv u Q I ro ri rv ⟨q, _, rfl, .k h2 (by have := few.1; omega), h _ (Ext.writeD h2 (List.mem_of_getElem? h1)) (rs.writeD h1 h2 g1 g2)⟩
          · cases e
        · cases e
      · cases e
    · cases e
  · exact h.elim
/-! ### truth -/
theorem truth_ok {K : Kw} {ρ : List Addr} {H H0 : Hp} {s : Sto} {a : RD} {x : V} {t : Bool} (rs : RS K ρ H s) (ra : RR K H0 ρ H a x) (h : truthR s a = some t) : TruV K x H t := by
  have nil_ : ∀ {ds : List D} {vs : List V}, RVs K ρ H ds vs → (!ds.isEmpty) = !vs.isEmpty := fun {ds vs} r => by
    have := r.length
    cases ds <;> cases vs <;> first | rfl | cases this
  unfold truthR at h
  split at h
  · cases h
    obtain ⟨p, vs, rfl, h1, h2, _⟩ := ra
    exact .inl ⟨vs, SqL.of h1, nil_ h2⟩
  · cases h; rw [rr_non ra]; rfl
  · cases h; rw [rr_bl ra]; rfl
  · cases h; rw [rr_int ra]; rfl
  · split at h
    · rename_i c
      cases h; rw [rr_str ra]; exact ⟨c, rfl⟩
    · cases h
  · cases h
    obtain ⟨p, vs, rfl, h1, h2⟩ := rr_tup ra
    exact .inr (.inl ⟨vs, h1, nil_ h2⟩)
  · cases h
    unfold RR RV at ra
    obtain ⟨p, vs, rfl, h1, h2⟩ := ra
    exact .inl ⟨vs, h1.sql, nil_ h2⟩
  · split at h
    · rename_i hk
      cases h
      obtain ⟨p, rfl, h1, _⟩ := ra
      obtain ⟨vs, h1, h2, h3⟩ := h1.dk hk
      refine .inr (.inr ⟨vs, h1, ?_⟩)
      have q := nil_ h3
      simpa using q
    · cases h
  · cases h
  · split at h
    · rename_i kvs ek
      cases h
      obtain ⟨p, vs, rfl, hp, g1, g2⟩ := dctAt_ok rs ra ek
      have hp : H p = some (.dK vs) := by
        unfold dctAt anyD at ek
        simp only at ek
        split at ek
        · rename_i kvs' e
          have ek : (if dK kvs' = true then some kvs' else none) = some kvs := ek
          split at ek
          case isFalse => cases ek
          rename_i hk
          obtain ⟨p', vs', q1, q2, q3, q4⟩ := rs.dctAt e hk
          have r := ra
          unfold RR RV at r
          obtain ⟨a', ea, ha⟩ := r
          cases ea
          rw [ha] at q1
          cases q1
          rcases hp with hp | ⟨o, hp⟩
          · exact hp
          · rw [hp] at q2; cases q2
        · cases ek
      refine .inr (.inr ⟨vs, hp, ?_⟩)
      cases kvs <;> cases vs <;> first | rfl | cases g1
    obtain ⟨ys, e2, e3⟩ := Option.map_eq_some_iff.mp h
    cases e3
    unfold RR RV at ra
    obtain ⟨p, rfl, h1⟩ := ra
    obtain ⟨p', vs, h2, h3, h4⟩ := lstAt_ok rs e2
    rw [h1] at h2
    cases h2
    exact .inl ⟨vs, SqL.of h3, nil_ h4⟩
end
end Nv

set_option Elab.async false
set_option linter.all false
set_option maxRecDepth 100000
set_option autoImplicit false
/-! NvCk: whether a term of the language stands for a piece of the text. -/
namespace Nv
open PySem L2

def visB (sc : Scope) (x : Str) : Bool :=
  match sc.names.lookup x with
  | some .local => true
  | some .cell => true
  | some .free => true
  | _ => false
def glB (sc : Scope) (x : Str) : Bool := decide (sc.names.lookup x = some .globalImplicit) && !(x == ("__debug__" : Str)) && !(x == ("__name__" : Str))
/-- a name that may be stored -/
def locB (sc : Scope) (x : Str) : Bool :=
  match sc.names.lookup x with
  | some .local => true
  | some .cell => true
  | _ => false
mutual
def ckT (N : List Str) (sc : Scope) : Tg → Expr → Bool
  | .v i, .Name x _ => decide (N[i]? = some x) && locB sc x
  | .v _, _ => false
  | t, .Tuple es _ _ => ckTs N sc t es
  | _, _ => false
def ckTs (N : List Str) (sc : Scope) : Tg → List Expr → Bool
  | .n, [] => true
  | .c a b, e :: es => ckT N sc a e && ckTs N sc b es
  | _, _ => false
end
def Tg.slots : Tg → List Nat
  | .v i => [i]
  | .n => []
  | .c a b => a.slots ++ b.slots
def notCall0 : Expr → Bool
  | .Call _ [] _ _ => false
  | _ => true
/-- forms that need no more looks -/
def okE : Expr → Bool
  | .Starred .. => false
  | .Set .. => false
  | .SetComp .. => false
  | .DictComp .. => false
  | .Slice .. => false
  | _ => true
def isLC : Expr → Bool
  | .ListComp .. => true
  | _ => false
def ownOf (N : List Str) (own : List Nat) : List (Str × Nat) := own.filterMap fun i => (N[i]?).map fun x => (x, i)
def tgOk (tu : Bool) (tg : Expr) : Bool := !tu || (match tg with | .Tuple .. => true | _ => false)
/-- a test that is its value's truth -/
def plainE : Expr → Bool
  | .UnaryOp .Not _ _ => false
  | .BoolOp .. => false
  | .IfExp .. => false
  | .Compare .. => false
  | _ => true
def Ex.isFrz : Ex → Bool
  | .frz _ => true
  | _ => false
structure Ck where
  e : Scope → Expr → Bool
  l : Scope → List Expr → Bool
def noE : Scope → Expr → Bool := fun _ _ => false
def noL : Scope → List Expr → Bool := fun _ _ => false
def ck (T : Tab) (N : List Str) : Ex → Ck
  | .nil => ⟨noE, fun _ es => match es with | [] => true | _ => false⟩
  | .cons a b => ⟨noE, fun sc es => match es with | e :: r => (ck T N a).e sc e && (ck T N b).l sc r | _ => false⟩
  | .var i => ⟨fun sc e => match e with | .Name x _ => decide (N[i]? = some x) && visB sc x && !(x == ("__debug__" : Str)) && !(x == ("__classdict__" : Str)) | _ => false, noL⟩
  | .int z => ⟨fun _ e => match e with | .Constant (.int y) _ _ => decide (y = z) | _ => false, noL⟩
  | .str z => ⟨fun _ e => match e with | .Constant (.str y) _ _ => decide (y = z) | _ => false, noL⟩
  | .bl z => ⟨fun _ e => match e with | .Constant (.bool y) _ _ => decide (y = z) | _ => false, noL⟩
  | .non => ⟨fun _ e => match e with | .Constant .none _ _ => true | _ => false, noL⟩
  | .gc j => ⟨fun sc e => match e with | .Name x _ => decide ((T.cons[j]?).map (·.1) = some x) && glB sc x | _ => false, noL⟩
  | .tup es => ⟨fun sc e => match e with | .Tuple xs _ _ => (ck T N es).l sc xs | _ => false, noL⟩
  | .lst es => ⟨fun sc e => match e with | .List xs _ => (ck T N es).l sc xs | _ => false, noL⟩
  | .bin o a b => ⟨fun sc e => match e with | .BinOp x op y _ => decide (op = o.op) && (ck T N a).e sc x && (ck T N b).e sc y | _ => false, noL⟩
  | .neg a => ⟨fun sc e => match e with | .UnaryOp .USub x _ => (ck T N a).e sc x | _ => false, noL⟩
  | .nt a => ⟨fun sc e => match e with | .UnaryOp .Not x _ => (ck T N a).e sc x | _ => false, noL⟩
  | .cmp o a b => ⟨fun sc e => match e with | .Compare x [op] [y] _ => decide (op = o.op) && (ck T N a).e sc x && (ck T N b).e sc y | _ => false, noL⟩
  | .cmp2 o o' a b c => ⟨fun sc e => match e with | .Compare x [op, op'] [y, z] _ => decide (op = o.op) && decide (op' = o'.op) && (ck T N a).e sc x && (ck T N b).e sc y && (ck T N c).e sc z | _ => false, noL⟩
  | .kin j kvs a => ⟨fun sc e => match e with | .Compare x [.In] [.Name y _] _ => decide (T.kds[j]? = some (y, kvs)) && glB sc y && (ck T N a).e sc x | _ => false, noL⟩
  | .kix j kvs a => ⟨fun sc e => match e with | .Subscript (.Name y _) x _ => decide (T.kds[j]? = some (y, kvs)) && glB sc y && (ck T N a).e sc x | _ => false, noL⟩
  | .and a b => ⟨fun sc e => match e with
    | .BoolOp .And [x, y] _ => (ck T N a).e sc x && (ck T N b).e sc y
    | .BoolOp .And (x :: y :: z :: r) p => (ck T N a).e sc x && (ck T N b).e sc (.BoolOp .And (y :: z :: r) p)
    | _ => false, noL⟩
  | .or a b => ⟨fun sc e => match e with
    | .BoolOp .Or [x, y] _ => (ck T N a).e sc x && (ck T N b).e sc y
    | .BoolOp .Or (x :: y :: z :: r) p => (ck T N a).e sc x && (ck T N b).e sc (.BoolOp .Or (y :: z :: r) p)
    | _ => false, noL⟩
  | .ife c a b => ⟨fun sc e => match e with | .IfExp z x y _ => (ck T N c).e sc z && (ck T N a).e sc x && (ck T N b).e sc y | _ => false, noL⟩
  | .call f es => ⟨fun sc e => match e with | .Call (.Name x _) xs [] _ => decide ((T.fns[f]?).map (·.name) = some x) && glB sc x && (ck T N es).l sc xs | _ => false, noL⟩
  | .b1 f a => ⟨fun sc e => match e with | .Call (.Name x _) [y] [] _ => decide (x = (f.name : Str)) && glB sc x && T.blts.contains x && (ck T N a).e sc y | _ => false, noL⟩
  | .b2 f a b => ⟨fun sc e => match e with | .Call (.Name x _) [y, z] [] _ => decide (x = (f.name : Str)) && glB sc x && T.blts.contains x && (ck T N a).e sc y && (ck T N b).e sc z | _ => false, noL⟩
  | .i1 f a => ⟨fun sc e => match e with | .Call (.Name x _) [y] [] _ => decide (x = (f.name : Str)) && glB sc x && T.blts.contains x && (ck T N a).e sc y | _ => false, noL⟩
  | .i2 f a b => ⟨fun sc e => match e with | .Call (.Name x _) [y, z] [] _ => decide (x = (f.name : Str)) && glB sc x && T.blts.contains x && (ck T N a).e sc y && (ck T N b).e sc z | _ => false, noL⟩
  | .isin a t => ⟨fun sc e => match e with | .Call (.Name x _) [y, .Name z _] [] _ => decide (x = ("isinstance" : Str)) && glB sc x && T.blts.contains x && (ck T N a).e sc y && decide (z = (t.name : Str)) && glB sc z && T.blts.contains z | _ => false, noL⟩
  | .fs f a => ⟨fun sc e => match e with | .Call (.Name x _) [.Call (.Name z _) [y] [] _] [] _ => decide (x = (f.name : Str)) && glB sc x && T.blts.contains x && decide (z = ("set" : Str)) && glB sc z && T.blts.contains z && (ck T N a).e sc y | _ => false, noL⟩
  | .dnew => ⟨fun _ e => match e with | .Dict [] [] _ => true | _ => false, noL⟩
  | .dget o k x => ⟨fun sc e => match e with | .Call (.Attribute y m ap) [z, w] [] cp => decide (m = ("get" : Str)) && (ap.endLine == cp.line) && notCall0 y && (ck T N o).e sc y && (ck T N k).e sc z && (ck T N x).e sc w | _ => false, noL⟩
  | .any => ⟨fun _ e => okE e && !isLC e, noL⟩
  | .frz a => ⟨fun sc e => plainE e && !a.isFrz && (ck T N a).e sc e, noL⟩
  | .rng3 a b c => ⟨fun sc e => match e with | .Call (.Name x _) [y, z, v] [] _ => decide (x = ("range" : Str)) && glB sc x && T.blts.contains x && (ck T N a).e sc y && (ck T N b).e sc z && (ck T N c).e sc v | _ => false, noL⟩
  | .m0 m o => ⟨fun sc e => match e with | .Call (.Attribute y x ap) [] [] cp => decide (x = (m.name : Str)) && (ap.endLine == cp.line) && notCall0 y && (ck T N o).e sc y | _ => false, noL⟩
  | .m1 m o a => ⟨fun sc e => match e with | .Call (.Attribute y x ap) [z] [] cp => decide (x = (m.name : Str)) && (ap.endLine == cp.line) && notCall0 y && (ck T N o).e sc y && (ck T N a).e sc z | _ => false, noL⟩
  | .ix a b => ⟨fun sc e => match e with | .Subscript x y _ => (ck T N a).e sc x && (ck T N b).e sc y | _ => false, noL⟩
  | .sl a lo hi => ⟨fun sc e => match e with
    | .Subscript x (.Slice l u none _) _ => (ck T N a).e sc x && (match l with | none => lo.isNil | some y => !lo.isNil && (ck T N lo).e sc y) && (match u with | none => hi.isNil | some y => !hi.isNil && (ck T N hi).e sc y)
    | _ => false, noL⟩
  | .cp elt tg it c own => ⟨fun sc e => match e with
    | .ListComp x [⟨t, i, ifs, 0⟩] scope _ => (ck T N it).e sc i && tgOk it.tupIt t && blkC N sc scope (ownOf N own) && decide ((ownOf N own).map (·.2) = own) && ckT N scope tg t && tg.slots.all (fun j => own.contains j)
        && (match ifs with | [] => c.isNil | [y] => !c.isNil && (ck T N c).e (relS scope sc) y | _ => false) && (ck T N elt).e (relS scope sc) x
    | _ => false, noL⟩

structure CkS where
  s : Scope → Stmt → Bool
  l : Scope → List Stmt → Bool
def noS : Scope → Stmt → Bool := fun _ _ => false
def noSL : Scope → List Stmt → Bool := fun _ _ => false
/-- whether a comprehension given to a name is stored by its own frame -/
def swapB (sc : Scope) (t : Expr) (v : Expr) : Option Bool :=
  match v with
  | .ListComp _ _ scope pos => (match t with
    | .Name y py => if sc.names.lookup y = some .local then (if (py.line == pos.line) = true ∧ (scope.names.any fun (n, k) => n == y && (k == .local || k == .cell)) = false then some true else none) else some false
    | _ => some false)
  | _ => some false
def namesAre (sc : Scope) : List Str → List Expr → Bool
  | [], [] => true
  | t :: ts, .Name y _ :: ys => decide (y = t) && glB sc y && namesAre sc ts ys
  | _, _ => false
/-- a test in an except suite: e at slot i, of class n -/
def hxck (T : Tab) (N : List Str) (sc : Scope) (i : Nat) (n : Str) : Hx → Expr → Bool
  | .bl b, v => match v with
    | .Constant (.bool y) _ _ => decide (y = b)
    | _ => false
  | .isx m ts b, v => match v with
    | .Call (.Name x _) [.Name e _, y] [] _ => decide (x = ("isinstance" : Str)) && glB sc x && T.blts.contains x && decide (N[i]? = some e) && visB sc e && !(e == ("__debug__" : Str)) && !(e == ("__classdict__" : Str))
        && (if m = true then (match y with | .Tuple ys _ _ => namesAre sc ts ys && decide (b = false) && decide (T.isAny n ts = some b) && decide (ys.length ≤ 1000) | _ => false)
          else (match y with | .Name z _ => (match ts with | [t] => decide (z = t) && glB sc z && T.isx.contains (n, t, b) | _ => false) | _ => false))
    | _ => false
  | .and a c, v => match v with
    | .BoolOp .And [x, y] _ => hxck T N sc i n a x && hxck T N sc i n c y
    | _ => false
  | .or _ _, _ => false
  | .nt _, _ => false
def hck (T : Tab) (N : List Str) (sc : Scope) (i : Nat) (n : Str) : Hs → List Stmt → Bool
  | .nil, ss => match ss with
    | [] => true
    | _ => false
  | .set j x r, ss => match ss with
    | .Assign [.Name y _] v _ :: ss => decide (N[j]? = some y) && decide (j ≠ i) && locB sc y && okE v && !isLC v && hxck T N sc i n x v && hck T N sc i n r ss
    | _ => false
  | .ifs x a r, ss => match ss with
    | .If c b [] _ :: ss => hxck T N sc i n x c && hck T N sc i n a b && hck T N sc i n r ss
    | _ => false
/-- a statement whose exceptions come ahead of its stores -/
def Sm.simple : Sm → Bool
  | .ex _ => true
  | .set _ _ => true
  | .ret _ => true
  | .ifs _ a b => a.simple && b.simple
  | .nil => true
  | .cons a .nil => a.simple
  | _ => false
def ckS (T : Tab) (N : List Str) : Sm → CkS
  | .nil => ⟨noS, fun _ ss => match ss with | [] => true | _ => false⟩
  | .cons a b => ⟨noS, fun sc ss => match ss with | e :: r => (ckS T N a).s sc e && (ckS T N b).l sc r | _ => false⟩
  | .ex e => ⟨fun sc s => match s with | .Expr x _ => !isLC x && (ck T N e).e sc x | _ => false, noSL⟩
  | .set tg e => ⟨fun sc s => match s with | .Assign [t] x p => ckT N sc tg t && (ck T N e).e sc x && (match tg with | .v _ => true | _ => (match x with | .Tuple .. => false | _ => true)) && (swapB sc t x).isSome | _ => false, noSL⟩
  | .setI o i e => ⟨fun sc s => match s with | .Assign [.Subscript x y _] z _ => (ck T N o).e sc x && (ck T N i).e sc y && (ck T N e).e sc z | _ => false, noSL⟩
  | .aug i o e => ⟨fun sc s => match s with | .AugAssign (.Name x _) op z _ => decide (op = o.op) && decide (N[i]? = some x) && locB sc x && (ck T N e).e sc z | _ => false, noSL⟩
  | .ret e => ⟨fun sc s => match s with | .Return (some x) _ => (ck T N e).e sc x | _ => false, noSL⟩
  | .retN => ⟨fun sc s => match s with | .Return none _ => true | _ => false, noSL⟩
  | .ifs c a b => ⟨fun sc s => match s with | .If x y z _ => (ck T N c).e sc x && (ckS T N a).l sc y && (ckS T N b).l sc z | _ => false, noSL⟩
  | .for_ tg it b => ⟨fun sc s => match s with | .For t x y [] _ => ckT N sc tg t && tgOk it.tupIt t && (ck T N it).e sc x && (ckS T N b).l sc y | _ => false, noSL⟩
  | .wh c b => ⟨fun sc s => match s with | .While x y [] _ => (ck T N c).e sc x && (ckS T N b).l sc y | _ => false, noSL⟩
  | .brk => ⟨fun sc s => match s with | .Break _ => true | _ => false, noSL⟩
  | .cnt => ⟨fun sc s => match s with | .Continue _ => true | _ => false, noSL⟩
  | .pass => ⟨fun sc s => match s with | .Pass _ => true | .Expr (.Constant (.str _) _ _) _ => true | _ => false, noSL⟩
  | .any => ⟨fun _ _ => true, noSL⟩
  | .setSl o lo hi e => ⟨fun sc s => match s with | .Assign [.Subscript x (.Slice (some a) (some b) none _) _] z _ => (ck T N o).e sc x && (ck T N lo).e sc a && (ck T N hi).e sc b && (ck T N e).e sc z | _ => false, noSL⟩
  | .raise n => ⟨fun sc s => match s with | .Raise (some (.Call (.Name x _) [.Constant (.str _) _ _] [] _)) none _ => decide (x = n) && T.excs.contains n && glB sc x | _ => false, noSL⟩
  | .try_ b cls i n h => ⟨fun sc s => match s with
    | .Try body [.ExceptHandler (some (.Name x _)) (some e) (b0 :: suite) _] [] [] _ => decide (x = cls) && glB sc x && decide (N[i]? = some e) && decide (sc.names.lookup e = some .local) && b.simple && T.exm.contains (n, cls) && (ckS T N b).l sc body && hck T N sc i n h (b0 :: suite)
    | _ => false, noSL⟩
end Nv

set_option Elab.async false
set_option linter.all false
set_option maxRecDepth 100000
set_option autoImplicit false
set_option maxHeartbeats 1000000
/-! NvEx: expressions keep what the interpreter says of them. -/
namespace Nv
open PySem PySem.Spec PyProof.Rows L2

/-- what is wanted of an exception, by the class of the text that it is of -/
abbrev wE (mg : Str → Option Value) (E : XK) : Wx := fun _ H x => ∃ (n : Str) (C : Addr), x = .str n ∧ mg n = some (.ref C) ∧ E (.ref C) none H
abbrev wS (mg : Str → Option Value) (W : WX) : L2.St → Wx := fun σ => wE mg (WE W σ)
/-- nothing is raised -/
abbrev W0 : Wx := fun _ _ _ => False
theorem post_w {α β : Type} {K : Kw} {W W' : Wx} {R : Hp → List Addr → Hp → α → β → Prop} {ρ : List Addr} {H : Hp} {Q : β → Hp → Prop} {o : Option α} {s : Sto} (h : Post K W R ρ H Q (ofO o s)) : Post K W' R ρ H Q (ofO o s) := by
  cases o with
  | none => exact h.elim
  | some a => exact h
abbrev WF : WX := fun _ _ _ _ => False
/-- the turns of a walk: what comes, one item after another -/
def ItOk (K : Kw) (ρ : List Addr) (H : Hp) (its : Nv.Its) (J : It) : Prop :=
  ∀ (ρ1 : List Addr) (H1 : Hp) (s1 : Sto), Ext K ρ H ρ1 H1 → RS K ρ1 H1 s1 → srcOk its.src s1 → ∀ i,
    (∀ d, its.ds[i]? = some d → J.go i H1 ∧ ∀ x H2, J.yld i H1 x H2 → Ext K ρ1 H1 ρ1 H2 ∧ RS K ρ1 H2 s1 ∧ RV K ρ1 H2 d x) ∧ (its.ds.length = i → J.stop i H1)
abbrev rIt (K : Kw) : Hp → List Addr → Hp → Nv.Its → It → Prop := fun _ ρ H its J => ItOk K ρ H its J
theorem bkIt {K : Kw} : Bk K (rIt K) := fun _ _ _ _ _ _ _ _ _ h => h

def tR (K : Kw) (W : L2.St → Wx) (m : M RD) : TE := fun σ H Q => ∃ ρ l s, RS K ρ H s ∧ RL K ρ H σ l ∧ Post K (W σ) (rRR K) ρ H Q (m l s)
def tVv (K : Kw) (W : L2.St → Wx) (m : M D) : TE := fun σ H Q => ∃ ρ l s, RS K ρ H s ∧ RL K ρ H σ l ∧ Post K (W σ) (rRV K) ρ H Q (m l s)
def tBb (K : Kw) (W : L2.St → Wx) (m : M Bool) : TT := fun σ H Q => ∃ ρ l s, RS K ρ H s ∧ RL K ρ H σ l ∧ Post K (W σ) rB ρ H Q (m l s)
def tAa (K : Kw) (W : L2.St → Wx) (m : M (List D)) : TA := fun σ H Q => ∃ ρ l s, RS K ρ H s ∧ RL K ρ H σ l ∧ Post K (W σ) (rRVs K) ρ H Q (m l s)
def tIi (K : Kw) (W : L2.St → Wx) (m : M Nv.Its) : TI := fun σ H R => ∃ ρ l s, RS K ρ H s ∧ RL K ρ H σ l ∧ Post K (W σ) (rIt K) ρ H R (m l s)

section
variable {X : Cx} {e : Expr} {es : List Expr}
theorem pe_wk {t t' : TE} (h : PE X e t) (w : ∀ σ H Q, t' σ H Q → t σ H Q) : PE X e t' := ⟨fun pins s σ H Q I q => h.run pins s σ H Q I (w σ H Q q)⟩
theorem pt_wk {t t' : TT} (h : PT X e t) (w : ∀ σ H Q, t' σ H Q → t σ H Q) : PT X e t' := ⟨fun pins s σ H Q I q => h.run pins s σ H Q I (w σ H Q q)⟩
theorem pw_wk {t t' : TT} (h : PW X e t) (w : ∀ σ H Q, t' σ H Q → t σ H Q) : PW X e t' := ⟨fun wh pins s σ H Q I q => h.run wh pins s σ H Q I (w σ H Q q)⟩
theorem pa_wk {t t' : TA} (h : PA X es t) (w : ∀ σ H Q, t' σ H Q → t σ H Q) : PA X es t' := ⟨fun pos pins s σ H Q I q => h.run pos pins s σ H Q I (w σ H Q q)⟩
theorem pi_wk {tg : Expr} {t t' : TI} (h : PI X tg e t) (w : ∀ σ H Q, t' σ H Q → t σ H Q) : PI X tg e t' := ⟨fun pins s σ H Q I q => h.run pins s σ H Q I (w σ H Q q)⟩
end

/-! ### forms -/
theorem ok_star {e : Expr} (h : okE e = true) (es : List Expr) (env : Env) : starEach (e :: es) env = (false, eval e env) :: starEach es env := by
  cases e <;> first | rfl | cases h
theorem ok_ix {e : Expr} (h : okE e = true) : PlainIx e := by
  intro o i
  cases e <;> first | rfl | cases h
theorem ok_fold {e : Expr} (h : okE e = true) (env : Env) (x : Value) : foldedSetIterable e env x = pure x := by
  cases e <;> first | rfl | cases h
theorem ok_swap {e : Expr} (h : okE e = true) (h2 : isLC e = false) (t : Option Expr) (n : Nat) (env : Env) : swapsWith e t n env = pure false := by
  cases e <;> first | rfl | exact Bool.noConfusion (show false = true from h) | exact Bool.noConfusion (show true = false from h2)
theorem ok_mark {e : Expr} (h : okE e = true) (op : CmpOp) : behindInMarks op e = false := by
  cases e <;> first | rfl | cases h
theorem plain_true {e : Expr} (h : plainE e = true) (env : Env) (whole : Sem Value) : isTrue e env whole = (do let v ← whole; standAt e.pos; holding [v] (truthy v)) := by
  cases e with
  | UnaryOp o x p => cases o <;> first | rfl | cases h
  | BoolOp _ _ _ => cases h
  | IfExp _ _ _ _ => cases h
  | Compare _ _ _ _ => cases h
  | _ => rfl

structure SndE (X : Cx) (W : L2.St → Wx) (e : Expr) (tu : Bool) (m : Den) : Prop where
  ok : okE e = true
  r : PE X e (tR X.kw W m.r)
  b : PT X e (tBb X.kw W m.b)
  w : ∀ op xs p, e = .BoolOp op xs p → PW X e (tBb X.kw W m.b)
  i : ∀ tg, tgOk tu tg = true → PI X tg e (tIi X.kw W m.i)
structure SndA (X : Cx) (W : L2.St → Wx) (es : List Expr) (m : M (List D)) : Prop where
  a : PA X es (tAa X.kw W m)
  pl : ∀ pos, (backTo pos (starEach es X.env)).any (·.1) = false
  hd : ∀ e r, es = e :: r → okE e = true

section
variable {X : Cx} {W : L2.St → Wx} {e : Expr}
/-- by the result taken up -/
theorem pe_v {m : M RD} (h : PE X e (tR X.kw W m)) : PE X e (tVv X.kw W fun l s => allocR (m l s)) := by
  refine pe_wk h fun σ H Q ⟨ρ, l, s, rs, rl, hp⟩ => ⟨ρ, l, s, rs, rl, ?_⟩
  have hp : Post X.kw (W σ) (rRV X.kw) ρ H Q (allocR (m l s)) := hp
  cases hm : m l s with
  | no => rw [hm] at hp; exact hp
  | ex x s1 => rw [hm] at hp; exact hp
  | ok a s1 =>
    rw [hm] at hp
    cases a with
    | d x => exact fun ρ1 H1 v e1 rs1 r1 => hp ρ1 H1 v e1 rs1 r1
    | l xs =>
      intro ρ1 H1 v e1 rs1 r1
      obtain ⟨a, vs, rfl, h1, h2, h3, h4⟩ := r1
      refine hp (ρ1 ++ [a]) H1 (.ref a) (e1.up h4) (rs1.up h1 h3 h2) ?_
      show RV _ _ _ _ _
      unfold RV
      exact ⟨a, rfl, by rw [← rs1.len, List.getElem?_append_right (Nat.le_refl _), Nat.sub_self]; rfl⟩
    | m kvs =>
      intro ρ1 H1 v e1 rs1 r1
      obtain ⟨a, rfl, h1, h3, h4⟩ := r1
      refine hp (ρ1 ++ [a]) H1 (.ref a) (e1.up h4) (rs1.upO h1 h3) ?_
      show RV _ _ _ _ _
      unfold RV
      exact ⟨a, rfl, by rw [← rs1.len, List.getElem?_append_right (Nat.le_refl _), Nat.sub_self]; rfl⟩
theorem SndE.v {tu : Bool} {m : Den} (h : SndE X W e tu m) : PE X e (tVv X.kw W m.v) := pe_v h.r
theorem pt_no : PT X e (tBb X.kw W noM) := ⟨fun _ _ _ _ _ _ ⟨_, _, _, _, _, h⟩ => h.elim⟩
theorem pe_no : PE X e (tR X.kw W noM) := ⟨fun _ _ _ _ _ _ ⟨_, _, _, _, _, h⟩ => h.elim⟩
theorem pi_no {tg : Expr} : PI X tg e (tIi X.kw W noM) := ⟨fun _ _ _ _ _ _ ⟨_, _, _, _, _, h⟩ => h.elim⟩
/-- a walk over a list that stands, a tuple -/
theorem it_list {K : Kw} {ρ : List Addr} {H : Hp} {p : Addr} {xs : List D} {src : Option (Nat × List D)}
    (h : ∀ (ρ1 : List Addr) (H1 : Hp) (s1 : Sto), Ext K ρ H ρ1 H1 → RS K ρ1 H1 s1 → srcOk src s1 → ∃ vs, SqL K H1 p vs ∧ RVs K ρ1 H1 xs vs) : ItOk K ρ H ⟨xs, src⟩ (Itl K p) := by
  intro ρ1 H1 s1 e rs so i
  obtain ⟨vs, h1, h2⟩ := h ρ1 H1 s1 e rs so
  refine ⟨fun d hd => ?_, fun hi => ⟨vs, h1, by rw [h2.length]; exact Nat.le_of_eq hi⟩⟩
  obtain ⟨v, h3, h4⟩ := h2.get hd
  refine ⟨⟨vs, v, h1, h3⟩, fun x H2 ⟨hy, hx⟩ => ?_⟩
  subst hy
  have := hx vs h1
  rw [h3] at this
  cases this
  exact ⟨.refl, rs, h4⟩
theorem it_tup {K : Kw} {ρ : List Addr} {H : Hp} {p : Addr} {xs : List D} {vs : List V} {src : Option (Nat × List D)} (h1 : SqT K H p vs) (h2 : RVs K ρ H xs vs) : ItOk K ρ H ⟨xs, src⟩ (Itt K p) := by
  intro ρ1 H1 s1 e rs so i
  have h1 := e.tup _ _ h1
  have h2 := RVs.mono e _ _ h2
  refine ⟨fun d hd => ?_, fun hi => ⟨vs, h1, by rw [h2.length]; exact Nat.le_of_eq hi⟩⟩
  obtain ⟨v, h3, h4⟩ := h2.get hd
  refine ⟨⟨vs, v, h1, h3⟩, fun x H2 ⟨hy, hx⟩ => ?_⟩
  subst hy
  have := hx vs h1
  rw [h3] at this
  cases this
  exact ⟨.refl, rs, h4⟩
theorem rv_key {K : Kw} {ρ : List Addr} {H : Hp} (k : Key) : RV K ρ H (keyD k) (kV k) := by
  cases k with
  | inl i => exact rv_int.mpr rfl
  | inr x => exact rv_str.mpr rfl
theorem it_keys {K : Kw} {ρ : List Addr} {H : Hp} {p : Addr} {o : Obj} {ks : List D} {vs : List (Key × V)} (h1 : H p = some (.frz o (.dK vs))) (h2 : vs.map (fun q => keyD q.1) = ks) : ItOk K ρ H ⟨ks, none⟩ (Itk p o vs) := by
  intro ρ1 H1 s1 e rs so i
  have h1 := e.fz _ _ _ h1
  subst h2
  refine ⟨fun d hd => ?_, fun hi => ⟨h1, ?_⟩⟩
  · have hd : (vs.map (fun q => keyD q.1))[i]? = some d := hd
    rw [List.getElem?_map] at hd
    obtain ⟨q, hq, rfl⟩ := Option.map_eq_some_iff.mp hd
    refine ⟨⟨h1, (List.getElem?_eq_some_iff.mp hq).1⟩, fun x H2 ⟨hy, k, v, h3, h4⟩ => ?_⟩
    subst hy
    rw [hq] at h3
    cases h3
    rw [h4]
    exact ⟨.refl, rs, rv_key k⟩
  · have hi : i = (vs.map (fun q => keyD q.1)).length := hi.symm
    rw [hi, List.length_map]; exact Nat.le_refl _
theorem it_str {K : Kw} {ρ : List Addr} {H : Hp} {z : Str} : ItOk K ρ H ⟨signsD z, none⟩ (L2.Its z) := by
  intro ρ1 H1 s1 e rs so i
  refine ⟨fun d hd => ?_, fun hi => ?_⟩
  · have hd' : (z.cps.toList.map fun c => D.str ⟨#[c]⟩)[i]? = some d := hd
    rw [List.getElem?_map] at hd'
    obtain ⟨c, hc, rfl⟩ := Option.map_eq_some_iff.mp hd'
    have hc' : z.cps[i]? = some c := by rw [← Array.getElem?_toList]; exact hc
    refine ⟨(Array.getElem?_eq_some_iff.mp hc').1, fun x H2 ⟨hy, c', h1, h2⟩ => ?_⟩
    subst hy
    rw [hc'] at h1
    cases h1
    exact ⟨.refl, rs, rv_str.mpr h2⟩
  · have : (signsD z).length = z.cps.size := by
      unfold signsD
      rw [List.length_map, Array.length_toList]
    show z.cps.size ≤ i
    rw [← this]
    exact Nat.le_of_eq hi
theorem upTo_length : ∀ (n : Nat) (lo : Int), (upTo lo n).length = n
  | 0, _ => rfl
  | n + 1, lo => by
    show (upTo (lo + 1) n).length + 1 = n + 1
    rw [upTo_length n]
theorem upTo_get : ∀ (n : Nat) (lo : Int) (i : Nat), i < n → (upTo lo n)[i]? = some (.int (lo + i))
  | 0, _, _, h => by omega
  | n + 1, lo, 0, _ => by
    show some (D.int lo) = _
    rw [show lo + ((0 : Nat) : Int) = lo by omega]
  | n + 1, lo, i + 1, h => by
    show (upTo (lo + 1) n)[i]? = _
    rw [upTo_get n (lo + 1) i (by omega)]
    rw [show lo + 1 + (i : Int) = lo + ((i + 1 : Nat) : Int) by omega]
theorem it_range {K : Kw} {ρ : List Addr} {H : Hp} {lo : Int} {n : Nat} : ItOk K ρ H ⟨upTo lo n, none⟩ (Itr lo n) := by
  intro ρ1 H1 s1 e rs so i
  refine ⟨fun d hd => ?_, fun hi => ?_⟩
  · have hlt : i < n := by
      have := (List.getElem?_eq_some_iff.mp hd).1
      rw [upTo_length] at this
      exact this
    rw [show (Nv.Its.mk (upTo lo n) none).ds = upTo lo n from rfl, upTo_get n lo i hlt] at hd
    cases hd
    refine ⟨hlt, fun x H2 ⟨hy, hx⟩ => ?_⟩
    subst hy
    exact ⟨.refl, rs, rv_int.mpr hx⟩
  · have h2 : (upTo lo n).length = i := hi
    rw [upTo_length] at h2
    exact Nat.le_of_eq h2
theorem steps_length : ∀ (n : Nat) (lo c : Int), (stepsOf lo c n).length = n
  | 0, _, _ => rfl
  | n + 1, lo, c => by unfold stepsOf; rw [List.length_cons, steps_length n]
theorem steps_get : ∀ (n : Nat) (lo c : Int) (i : Nat), i < n → (stepsOf lo c n)[i]? = some (.int (lo + (i : Nat) * c))
  | 0, _, _, _, h => absurd h (Nat.not_lt_zero _)
  | n + 1, lo, c, 0, _ => by
    show some (Nv.D.int lo) = _
    rw [show lo + ((0 : Nat) : Int) * c = lo by simp]
  | n + 1, lo, c, i + 1, h => by
    show (stepsOf (lo + c) c n)[i]? = _
    rw [steps_get n (lo + c) c i (by omega)]
    rw [show lo + c + (i : Int) * c = lo + ((i + 1 : Nat) : Int) * c by
      rw [Int.natCast_add, Int.add_mul]
      simp
      omega]
theorem it_steps {K : Kw} {ρ : List Addr} {H : Hp} {lo c : Int} {n : Nat} : ItOk K ρ H ⟨stepsOf lo c n, none⟩ (Itc lo c n) := by
  intro ρ1 H1 s1 e rs so i
  refine ⟨fun d hd => ?_, fun hi => ?_⟩
  · have hlt : i < n := by
      have := (List.getElem?_eq_some_iff.mp hd).1
      rw [steps_length] at this
      exact this
    rw [show (Nv.Its.mk (stepsOf lo c n) none).ds = stepsOf lo c n from rfl, steps_get n lo c i hlt] at hd
    cases hd
    refine ⟨hlt, fun x H2 ⟨hy, hx⟩ => ?_⟩
    subst hy
    exact ⟨.refl, rs, rv_int.mpr hx⟩
  · have h2 : (stepsOf lo c n).length = i := hi
    rw [steps_length] at h2
    exact Nat.le_of_eq h2
/-- what stays of a list that a value or a fresh result reads -/
theorem src_list {K : Kw} {ρ : List Addr} {H H0 : Hp} {s : Sto} {a : RD} {x : V} {xs : List D} (rs : RS K ρ H s) (r : RR K H0 ρ H a x) (h : asL s a = some xs) :
    ∃ p, x = .ref p ∧ ∀ (ρ1 : List Addr) (H1 : Hp) (s1 : Sto), Ext K ρ H ρ1 H1 → RS K ρ1 H1 s1 → srcOk (srcR s a) s1 → ∃ vs, SqL K H1 p vs ∧ RVs K ρ1 H1 xs vs := by
  unfold asL at h
  split at h
  · cases h
    obtain ⟨p, vs, e1, e2, e3, e4, _⟩ := r
    exact ⟨p, e1, fun ρ1 H1 s1 e rs1 _ => ⟨vs, SqL.of (e.oth _ _ e2 e4), RVs.mono e _ _ e3⟩⟩
  · cases h
    unfold RR RV at r
    obtain ⟨p, vs, e1, e2, e3⟩ := r
    exact ⟨p, e1, fun ρ1 H1 s1 e rs1 _ => ⟨vs, (e.fzl _ _ e2).sql, RVs.mono e _ _ e3⟩⟩
  · rename_i i
    unfold RR RV at r
    obtain ⟨p, e1, e2⟩ := r
    refine ⟨p, e1, fun ρ1 H1 s1 e rs1 so => ?_⟩
    have so : srcOk (Option.map (fun xs => (i, xs)) (lstAt s i)) s1 := so
    rw [h] at so
    have so' : s1[i]? = some (.lst xs) := so
    obtain ⟨q, vs, h1, h2, h3⟩ := rs1.lstAt so'
    rw [e.pre i p e2] at h1
    cases h1
    exact ⟨vs, SqL.of h2, h3⟩
  · cases h
/-- the walk of a value -/
theorem pi_of {m : M RD} {tg : Expr} (h : PE X e (tR X.kw W m)) : PI X tg e (tIi X.kw W fun l s => (m l s).bind fun a s1 => ofO (itsR s1 a) s1) := by
  refine ⟨fun pins s σ H R I ⟨ρ, l, st, rs, rl, hp⟩ => ?_⟩
  have hp : Post X.kw (W σ) (rIt X.kw) ρ H R ((m l st).bind fun a s1 => ofO (itsR s1 a) s1) := hp
  cases hm : m l st with
  | no => rw [hm] at hp; exact hp.elim
  | ex x s1 =>
    rw [hm] at hp
    exact (pi_list (tg := tg) h).run pins s σ H R I ⟨ρ, l, st, rs, rl, by rw [hm]; exact hp⟩
  | ok a s1 =>
    rw [hm] at hp
    have hp : Post X.kw (W σ) (rIt X.kw) ρ H R (ofO (itsR s1 a) s1) := hp
    have lst : ∀ xs, asL s1 a = some xs → itsR s1 a = some ⟨xs, srcR s1 a⟩ → wpAny (model X.prog X.w) X.A (eval e X.env) (fun v s1 => wpAny (model X.prog X.w) X.A (pyIter v) (PIE X pins σ tg R) X.xe s1) X.xe s := by
      intro xs h1 h2
      refine (pi_list (tg := tg) h).run pins s σ H R I ⟨ρ, l, st, rs, rl, ?_⟩
      rw [hm]
      intro ρ1 H1 v e1 rs1 r1
      rw [h2] at hp
      obtain ⟨p, rfl, h4⟩ := src_list rs1 r1 h1
      obtain ⟨q, vs, h5, h6, _⟩ := asL_ok rs1 r1 h1
      cases h5
      exact ⟨p, rfl, ⟨vs, h6⟩, hp ρ1 H1 _ e1 rs1 (it_list h4)⟩
    cases a with
    | l xs => exact lst xs rfl rfl
    | m kvs => exact hp.elim
    | d x =>
      cases x with
      | ld ks ds =>
        refine (pi_keys (tg := tg) h).run pins s σ H R I ⟨ρ, l, st, rs, rl, ?_⟩
        rw [hm]
        intro ρ1 H1 v e1 rs1 r1
        have r1 : RV X.kw ρ1 H1 (.ld ks ds) v := r1
        unfold RV at r1
        obtain ⟨p, o, vs, rfl, h1, h2, h3⟩ := r1
        exact ⟨p, o, rfl, .inl ⟨vs, h1, hp ρ1 H1 _ e1 rs1 (it_keys h1 h2)⟩⟩
      | lf xs => exact lst xs rfl rfl
      | obj i =>
        unfold itsR at hp
        simp only at hp
        split at hp
        · rename_i ys ey
          exact lst ys (by show lstAt s1 i = _; unfold lstAt; rw [ey]) (by unfold itsR srcR lstAt; simp only [ey]; rfl)
        · exact hp.elim
      | tup xs =>
        refine (pi_tup (tg := tg) h).run pins s σ H R I ⟨ρ, l, st, rs, rl, ?_⟩
        rw [hm]
        intro ρ1 H1 v e1 rs1 r1
        obtain ⟨p, vs, rfl, h1, h2⟩ := rr_tup r1
        exact ⟨p, rfl, ⟨vs, h1⟩, hp ρ1 H1 _ e1 rs1 (it_tup h1 h2)⟩
      | str z =>
        refine (pi_str (tg := tg) h).run pins s σ H R I ⟨ρ, l, st, rs, rl, ?_⟩
        rw [hm]
        intro ρ1 H1 v e1 rs1 r1
        exact ⟨z, rr_str r1, hp ρ1 H1 _ e1 rs1 it_str⟩
      | non => exact hp.elim
      | bl _ => exact hp.elim
      | int _ => exact hp.elim
theorem pt_of {m : M RD} (hp : plainE e = true) (h : PE X e (tR X.kw W m)) : PT X e (tBb X.kw W fun l s => (m l s).bind fun a s1 => ofO (truthR s1 a) s1) := by
  refine pt_wk (pt_truth h (plain_true hp X.env)) fun σ H Q ⟨ρ, l, s, rs, rl, h⟩ => ⟨ρ, l, s, rs, rl, ?_⟩
  refine h.bind bkB fun a s1 ρ1 H1 v e1 rs1 r1 h1 => ?_
  cases ht : truthR s1 a with
  | none => rw [ht] at h1; exact h1.elim
  | some t =>
    rw [ht] at h1
    exact ⟨t, truth_ok rs1 r1 ht, h1 ρ1 H1 t .refl rs1 rfl⟩
theorem snd_mkR {m : M RD} (ok : okE e = true) (hp : plainE e = true) (h : PE X e (tR X.kw W m)) : SndE X W e false (mkR m) :=
  ⟨ok, h, pt_of hp h, fun op xs p q => (by subst q; cases hp), fun tg _ => pi_of h⟩
theorem snd_mkQ {m : M RD} (ok : okE e = true) (hp : ∀ op xs p, e ≠ .BoolOp op xs p) (h : PE X e (tR X.kw W m)) : SndE X W e false (mkQ m) :=
  ⟨ok, h, pt_no, fun op xs p q => absurd q (hp op xs p), fun tg _ => pi_of h⟩
theorem snd_mkB {r : M RD} {b : M Bool} (ok : okE e = true) (h : PE X e (tR X.kw W r)) (hb : PT X e (tBb X.kw W b)) (w : ∀ op xs p, e = .BoolOp op xs p → PW X e (tBb X.kw W b)) : SndE X W e false (mkB r b) :=
  ⟨ok, h, hb, w, fun tg _ => pi_no⟩
theorem snd_mkI {m : M Nv.Its} {tu : Bool} (ok : okE e = true) (hp : ∀ op xs p, e ≠ .BoolOp op xs p) (h : ∀ tg, tgOk tu tg = true → PI X tg e (tIi X.kw W m)) : SndE X W e tu (mkI m) :=
  ⟨ok, pe_no, pt_no, fun op xs p q => absurd q (hp op xs p), h⟩
end

/-! ### the contexts -/
/-- a function's promise by the interpreter's run -/
def spOf (K : Kw) (mg : Str → Option Value) (g : List D → Sto → Res RD) : Sp := fun vs H Q E => ∃ ρ s ds, RS K ρ H s ∧ RVs K ρ H ds vs ∧ Post K (wE mg E) (rRR K) ρ H Q (g ds s)
/-- the facts of a class of exceptions of the text's own -/
structure ExcF (K : PySem.W.Frag) (mg : Str → Option Value) (n : Str) (C : Addr) : Prop where
  mg_ : mg n = some (.ref C)
  keep : PySem.W.keepIn K (.ref C) = true
  base : ∃ B newId initId bmB, ExcBaseFacts B newId initId bmB ∧ PySem.W.excIn K C bmB newId = true
  sub : PySem.W.subIn K (.ref C) (.type "BaseException") = some true
  ty : PySem.W.typeIn K (.ref C) = some (.type "type")
  is_ : ExcC K C
/-- what isinstance tells of an exception of class n -/
def IsF (K : PySem.W.Frag) (mg : Str → Option Value) (n x : Str) (b : Bool) : Prop := ∃ (C : Addr) (D : Value) (v : V), mg n = some (.ref C) ∧ RelV v D ∧ (∀ u, RelV v u → u = D) ∧ (mg x = some D ∨ (mg x = none ∧ bootBuiltins x = some D ∧ x ≠ "__name__")) ∧ PySem.W.kitOne K (.ref C) D = some b
/-- a dict of the top: texts, to whole numbers -/
def KdF (K : PySem.W.Frag) (w : World) (mg : Str → Option Value) (x : Str) (kvs : List (Str × Int)) : Prop :=
  ∃ (d : Addr) (es : Array DictEntry) (n : Nat), mg x = some (.ref d) ∧ KDict K w d es n ∧ ∀ z, match kvs.lookup z with
    | some i => ∃ t, PySem.W.nsIn K d z = some (some (.int i t))
    | none => PySem.W.nsIn K d z = some none
theorem KdF.is {K : PySem.W.Frag} {w : World} {mg : Str → Option Value} {x : Str} {kvs : List (Str × Int)} (h : KdF K w mg x kvs) : ∃ (d : Addr) (es : Array DictEntry) (n : Nat), mg x = some (.ref d) ∧ KDict K w d es n ∧
    (∀ z, ∃ r, PySem.W.nsIn K d z = some r ∧ r.isSome = (kvs.lookup z).isSome) ∧ ∀ z i, kvs.lookup z = some i → KDct K w d z (.int i) := by
  obtain ⟨d, es, n, h1, h2, h3⟩ := h
  refine ⟨d, es, n, h1, h2, fun z => ?_, fun z i e => ?_⟩
  · have := h3 z
    cases q : kvs.lookup z with
    | none => rw [q] at this; exact ⟨none, this, rfl⟩
    | some i =>
      rw [q] at this
      obtain ⟨t, e⟩ := this
      exact ⟨_, e, rfl⟩
  · have := h3 z
    rw [e] at this
    obtain ⟨t, e⟩ := this
    exact ⟨es, n, _, h2.at_, h2.lit, e, t, rfl⟩
structure Good (T : Tab) (cf : Nat → List D → Sto → Res RD) (k : Nat) (N : List Str) (sc : Scope) (X : Cx) (W : WX) : Prop where
  tk : Takes X W
  exc : ∀ n : Str, T.excs.contains n = true → ∃ C, ExcF X.K X.mg n C
  exm : ∀ n x : Str, T.exm.contains (n, x) = true → ∃ C D, X.mg n = some (.ref C) ∧ X.mg x = some (.ref D) ∧ PySem.W.exmOne X.K (.ref C) (.ref D) = some true ∧ ExcF X.K X.mg n C
  isx : ∀ (n x : Str) (b : Bool), T.isx.contains (n, x, b) = true → IsF X.K X.mg n x b
  nm : X.N = N
  nd : N.Nodup
  sc : X.env.scope = sc
  calm : X.calm = true
  room : Room k X.A
  blt : ∀ x : Str, T.blts.contains x = true → X.mg x = none
  con : ∀ (j : Nat) (x : Str) (d : D), T.cons[j]? = some (x, d) → ∃ u v, X.mg x = some u ∧ RelV v u ∧ ∀ ρ H, RV X.kw ρ H d v
  kds : ∀ (j : Nat) (x : Str) (kvs : List (Str × Int)), T.kds[j]? = some (x, kvs) → KdF X.K X.w X.mg x kvs
  fns : ∀ (i : Nat) (F : Fn), T.fns[i]? = some F → ∃ f fd, X.mg F.name = some (.ref f) ∧ PySem.W.keepIn X.K (.ref f) = true ∧ Binds X.K fd F.ps [] ∧ FnOk X.prog X.w X.K X.mg X.base (L2.CX X.prog X.w) k f fd F.ps (spOf X.kw X.mg (cf i))
section
variable {T : Tab} {cf : Nat → List D → Sto → Res RD} {k : Nat} {N : List Str} {sc : Scope} {X : Cx} {W : WX}
theorem Good.hu (g : Good T cf k N sc X W) : X.A.units + 65 < cLine := by
  have := g.room.un
  omega
theorem vis_of {x : Str} (h : visB sc x = true) : Vis sc x := by
  unfold visB at h
  split at h
  · rename_i q; exact .inl q
  · rename_i q; exact .inr (.inl q)
  · rename_i q; exact .inr (.inr q)
  · cases h
theorem Good.gl (g : Good T cf k N sc X W) {x : Str} (h : glB sc x = true) : Gl X x ∧ (x == ("__debug__" : Str)) = false ∧ x ≠ ("__name__" : Str) := by
  unfold glB at h
  simp only [Bool.and_eq_true, decide_eq_true_eq, Bool.not_eq_true'] at h
  refine ⟨?_, h.1.2, fun e => ?_⟩
  · show X.env.scope.names.lookup x = _
    rw [g.sc]; exact h.1.1
  · have := h.2
    rw [e] at this
    simp at this
theorem Good.blk (g : Good T cf k N sc X W) (s : Shared) (H : Hp) (scope : Scope) (cl : List (Str × Addr)) (C : Addr) (fp : List Addr) : Good T cf k N (relS scope sc) (X.blk s H scope (compEnvC scope cl C X.env) fp) WF :=
  ⟨fun _ _ ⟨_, _, _, _, _, _, _, _, _, _, _, _, _, _, _, _, z⟩ => z.elim, g.exc, g.exm, g.isx, g.nm, g.nd, by show relabel scope X.env = _; rw [← g.sc]; rfl, g.calm, g.room, g.blt, g.con, g.kds, g.fns⟩
/-- a single argument -/
theorem pa_r {W : L2.St → Wx} {e : Expr} {m : M RD} (ok : okE e = true) (h : PE X e (tR X.kw W m)) : PA X [e] (tCons (tR X.kw W m) tNil) := pa_cons h pa_nil (ok_star ok [] X.env)
theorem b1_boot (f : B1) : bootBuiltins (f.name : Str) = some f.val := by cases f <;> decide +kernel
theorem b2_boot (f : B2) : bootBuiltins (f.name : Str) = some f.val := by cases f <;> decide +kernel
theorem ty_boot (t : Ty) : bootBuiltins (t.name : Str) = some (.type t.name) := by cases t <;> decide +kernel
/-- f(e, ..), f a built-in function or type -/
theorem pe_callV {v : Value} {r : List V → Hp → VK → Prop} {x : Str} {e : Expr} {es : List Expr} {t : TA} {p pos : Pos} (hv2 : (∃ id, v = .builtin id) ∨ ∃ n, v = .type n) (hc : CallR X v r) (hg : Gl X x) (hm : X.mg x = none) (hv : bootBuiltins x = some v) (ha : PA X (e :: es) t)
    (hn : x ≠ ("__name__" : Str)) (hdb : (x == ("__debug__" : Str)) = false) (he : starEach (e :: es) X.env = (false, eval e X.env) :: starEach es X.env) (hpl : (backTo pos (starEach es X.env)).any (·.1) = false) :
    PE X (.Call (.Name x p) (e :: es) [] pos) (tCB r t) := by
  rcases hv2 with ⟨id, rfl⟩ | ⟨n, rfl⟩
  · exact pe_callB hc hg hm hv ha hn hdb he hpl
  · exact pe_callTy hc hg hm hv ha hn hdb he hpl
theorem b1_kind (f : B1) : (∃ id, f.val = .builtin id) ∨ ∃ n, f.val = .type n := by cases f <;> first | exact .inl ⟨_, rfl⟩ | exact .inr ⟨_, rfl⟩
theorem b2_kind (f : B2) : (∃ id, f.val = .builtin id) ∨ ∃ n, f.val = .type n := by cases f <;> first | exact .inl ⟨_, rfl⟩ | exact .inr ⟨_, rfl⟩
end
end Nv

set_option Elab.async false
set_option linter.all false
set_option maxRecDepth 100000
set_option autoImplicit false
set_option maxHeartbeats 4000000
/-! NvSet: set(list of texts), set(list of tuples of keys), both by one loop. -/
namespace Nv
open PySem PySem.Spec PyProof.Rows L2

/-- a set as it is made -/
def bare (w : World) : Obj := { cls := .type "set", dict := none, data := .set #[] 0 (.fresh 0 0 (!w.params.followText "set-order")) }
/-- what adding wants and does; Is: the value is the key, St: the set at the address has the rows -/
structure Adds (P : Program) (w : World) {κ : Type} (Is : Heap → κ → Value → Prop) (St : Heap → Addr → List (Value × κ) → Prop) : Prop where
  mono : ∀ {h h' : Heap} {k : κ} {v : Value}, Is h k v → (∀ b o, h.get? b = some o → h'.get? b = some o) → Is h' k v
  stay : ∀ {h h' : Heap} {a : Addr} {L : List (Value × κ)}, St h a L → (∀ o, h.get? a = some o → h'.get? a = some o) → St h' a L
  nil : ∀ {h : Heap} {a : Addr}, h.get? a = some (bare w) → St h a []
  add : ∀ {A : Around} {E : Value → Shared → Prop} {s : Shared} {a : Addr} {L : List (Value × κ)} {v : Value} {k : κ} {Q : Bool → Shared → Prop}, A.units + 60 < cLine → St s.heap a L → (∀ p ∈ L, Is s.heap p.2 p.1) → Is s.heap k v → L.length + 1 < 64 →
    (∀ r h' tk L', s.toks ≤ tk → Heap.SameBut a s.heap h' → St h' a L' → (k ∈ L.map (·.2) → L' = L) → (k ∉ L.map (·.2) → L'.Perm ((v, k) :: L)) → Q r { s with heap := h', toks := tk }) →
    wpAny (model P w) A (setAdd a v) Q E s
/-- the rows that come of the first i items -/
structure From {κ : Type} (ks : List (Value × κ)) (i : Nat) (L : List (Value × κ)) : Prop where
  sub : ∀ p ∈ L, p ∈ ks
  all : ∀ p ∈ ks.take i, p.2 ∈ L.map (·.2)
  nd : (L.map (·.2)).Nodup
  len : L.length ≤ i
section
variable {κ : Type} {ks L L' : List (Value × κ)} {i : Nat} {x : Value × κ}
theorem From.nil : From ks 0 [] := ⟨fun p h => (by cases h), fun p h => (by simp at h), List.nodup_nil, Nat.le_refl _⟩
theorem take_one (h : ks[i]? = some x) : ks.take (i + 1) = ks.take i ++ [x] := by
  rw [List.take_add_one, h]; rfl
theorem From.old (g : From ks i L) (h : ks[i]? = some x) (m : x.2 ∈ L.map (·.2)) : From ks (i + 1) L where
  sub := g.sub
  all := fun p hp => by
    rw [take_one h, List.mem_append, List.mem_singleton] at hp
    rcases hp with hp | hp
    · exact g.all p hp
    · rw [hp]; exact m
  nd := g.nd
  len := Nat.le_succ_of_le g.len
theorem From.one (g : From ks i L) (h : ks[i]? = some x) (m : x.2 ∉ L.map (·.2)) (pm : L'.Perm (x :: L)) : From ks (i + 1) L' where
  sub := fun p hp => by
    rcases List.mem_cons.mp (pm.mem_iff.mp hp) with e | z
    · rw [e]; exact List.mem_of_getElem? h
    · exact g.sub p z
  all := fun p hp => by
    rw [(pm.map (·.2)).mem_iff, List.map_cons]
    rw [take_one h, List.mem_append, List.mem_singleton] at hp
    rcases hp with hp | hp
    · exact .tail _ (g.all p hp)
    · rw [hp]; exact .head _
  nd := (pm.map (·.2)).nodup_iff.mpr (List.nodup_cons.mpr ⟨m, g.nd⟩)
  len := by have := g.len; rw [pm.length_eq, List.length_cons]; omega
end
section
variable {P : Program} {w : World} {A : Around} {E : Value → Shared → Prop} {s : Shared} {κ : Type} {Is : Heap → κ → Value → Prop} {St : Heap → Addr → List (Value × κ) → Prop}
/-- the loop of set.update -/
theorem upd_loop (D : Adds P w Is St) {I : Addr} {fp wr : List Addr} {G : Array GenState → Array GenState → Prop} {n : Nat} {Pv : Nat → Value → Prop} {Wt : Nat → Shared → Prop} {R : Result → Shared → Prop}
    (W : WalksS P w A.in1 I fp wr G n Pv Wt) (S : Addr) (nf : S ∉ fp) (ks : List (Value × κ)) (hn : n = ks.length) (few : ks.length < 64) (hval : ∀ i v, Pv i v → ∃ p, ks[i]? = some p ∧ v = p.1)
    (h0 : Heap) (hk : ∀ p ∈ ks, Is h0 p.2 p.1) (hS0 : h0.get? S = none) (hw0 : ∀ b ∈ wr, h0.get? b = none) (hu : A.in1.units + 60 < cLine) :
    ∀ (m i : Nat) (s : Shared), n - i = m → i ≤ n → Wt i s → (∀ b o, h0.get? b = some o → s.heap.get? b = some o) → (∃ L, St s.heap S L ∧ From ks i L) →
      (∀ s' L, Moved (S :: wr) G s s' → St s'.heap S L → From ks n L → (∀ b o, h0.get? b = some o → s'.heap.get? b = some o) → R (.ok (.ret .none)) s') →
      codeAny (model P w) A (.builtin "set.update.loop" ⟨[.ref S, .ref I], []⟩) R s := by
  have nw : S ∉ wr := fun h => nf (W.sub _ h)
  have up : ∀ b ∈ wr, b ∈ S :: wr := fun b hb => .tail _ hb
  have still : ∀ {u u' : Shared}, Moved wr G u u' → (∀ b o, h0.get? b = some o → u.heap.get? b = some o) → ∀ b o, h0.get? b = some o → u'.heap.get? b = some o := fun hm q b o e =>
    hm.heap b o (fun hb => by rw [hw0 b hb] at e; cases e) (q b o e)
  intro m
  induction m with
  | zero =>
    intro i s hm0 hi hst kp ⟨L, hL, g⟩ hR
    obtain rfl : i = n := by omega
    refine codeAny_builtin F.entry_set_update_loop ?_
    rw [Around.under_plainId F.plain_set_update_loop _]
    show wpAny _ A.in1 (pyNext (.ref I) >>= fun _ => _) _ _ s
    refine wpAny_bind (W.done s _ _ hst fun s' mv => ?_)
    show wpAny _ A.in1 (ret Value.none) _ _ s'
    exact wpAny_pure (hR s' L (mv.mono up) (D.stay hL fun o e => mv.heap S o nw e) g (still mv kp))
  | succ m ih =>
    intro i s hm0 hi hst kp ⟨L, hL, g⟩ hR
    have lt : i < n := by omega
    refine codeAny_builtin F.entry_set_update_loop ?_
    rw [Around.under_plainId F.plain_set_update_loop _]
    show wpAny _ A.in1 (pyNext (.ref I) >>= fun _ => _) _ _ s
    refine wpAny_bind (W.item i s _ _ lt hst fun v s' hP hst' mv => ?_)
    obtain ⟨p, hp, rfl⟩ := hval i v hP
    have kp' := still mv kp
    show wpAny _ A.in1 (holding [p.1] (setAdd S p.1) >>= fun _ => _) _ _ s'
    refine wpAny_bind (wpAny_holding (D.add (k := p.2) hu (D.stay hL fun o e => mv.heap S o nw e) (fun q hq => D.mono (hk q (g.sub q hq)) kp') (D.mono (hk p (List.mem_of_getElem? hp)) kp') (by have := g.len; omega) fun b h' tk L' htk sb hL' c1 c2 => ?_))
    have g' : From ks (i + 1) L' := by
      by_cases c : p.2 ∈ L.map (·.2)
      · rw [c1 c]; exact g.old hp c
      · exact g.one hp c (c2 c)
    have kp2 : ∀ b o, h0.get? b = some o → h'.get? b = some o := fun b o e => (sb.2 b fun z => by rw [z, hS0] at e; cases e).trans (kp' b o e)
    refine wpAny_pure ⟨plainId_quiet F.plain_set_update_loop _, ih (i + 1) _ (by omega) lt (W.frame _ s' _ _ hst' htk fun b hb o e => ?_) kp2 ⟨L', hL', g'⟩ fun s2 L2 mv2 a1 a2 a3 => ?_⟩
    · rw [sb.2 b fun z => nf (by rw [← z]; exact hb)]; exact e
    · refine hR s2 L2 (Moved.trans W.gtrans ((mv.mono up).then_heap htk fun b o hb e => ?_) mv2) a1 a2 a3
      rw [sb.2 b fun z => hb (by rw [z]; exact .head _)]; exact e
/-- set(xs), xs a list -/
theorem call_setA (D : Adds P w Is St) {l : Addr} {its : Array Value} (ks : List (Value × κ)) {Q : Value → Shared → Prop} (hh : A.handled = none) (hl : s.heap.IsList l its) (hit : its.toList = ks.map (·.1))
    (hk : ∀ p ∈ ks, Is s.heap p.2 p.1) (few : ks.length < 64) (hu : A.units + 63 < cLine)
    (h : ∀ (h' : Heap) (tk : Nat) L, St h' s.heap.objs.size L → From ks ks.length L → (∀ b o, s.heap.get? b = some o → h'.get? b = some o) → Q (.ref s.heap.objs.size) { s with heap := h', toks := tk }) :
    wpAny (model P w) A (call (.type "set") [.ref l]) Q E s := by
  have hz : its.size = ks.length := by
    have q := congrArg List.length hit
    rwa [Array.length_toList, List.length_map] at q
  obtain ⟨c, tl, hmro⟩ := F.called_set.mro
  have m1 := F.called_set.made
  have m2 := F.called_set.sub
  refine wpAny_call (codeAny_of_tree ?_)
  show wpAny _ _ (callAny (.type "set") _) _ _ _
  refine wpAny_pure ⟨Code.quiet_builtin _ (by decide +kernel), codeAny_builtin F.entry_type_call ?_⟩
  rw [Around.under_plain (weight_type_call_type "set" [.ref l] []) rfl]
  have m3 := F.called_set.notType
  have m4 := F.called_set.canCreate
  have m5 := F.typeCall_set_1 (.ref l)
  repeat (any_goals (first | assumption | wp_step))
  refine codeAny_mono (code_set_led1 (.ref l) (E := E) (Q₁ := fun u s1 => u = .ref s.heap.objs.size ∧ s1 = { s with heap := s.heap.push (bare w) }) ⟨rfl, rfl⟩) fun r s1 hr => ?_
  cases r with
  | error e => exact hr
  | ok fl =>
    cases fl with
    | ret u =>
      obtain ⟨rfl, rfl⟩ := hr
      have b1 : (s.heap.push (bare w)).get? s.heap.objs.size = some (bare w) := Heap.get?_push_size _ rfl
      have b2 : Shared.TypeIs { s with heap := s.heap.push (bare w) } (.ref s.heap.objs.size) "set" := ⟨_, b1, rfl⟩
      have m6 := F.called_set.init.lookup
      have m7 := F.called_set.init.bind (.ref s.heap.objs.size)
      repeat (any_goals (first | assumption | wp_step))
      refine codeAny_mono (codeAny_call_builtin (R := wants (fun r s2 => r = .none ∧ ∃ h' tk L, s2 = { s with heap := h', toks := tk } ∧ St h' s.heap.objs.size L ∧ From ks ks.length L ∧
          (∀ b o, s.heap.get? b = some o → h'.get? b = some o)) E) F.called_set.init.plain F.entry_set_init (check_set_init_1 b2 ?_)) fun r2 s2 hr2 => ?_
      · obtain ⟨o, ho, hc, n, hd⟩ := hl
        obtain ⟨oc, od, oa, os⟩ := o
        simp only at hc hd
        subst hc; subst hd
        have ho1 : (s.heap.push (bare w)).get? l = some { cls := .type "list", dict := od, data := .seq its n, slots := os } := Heap.get?_push_of_some _ ho
        have n1 := F.sub_list_set
        have n2 := F.sub_list_frozenset
        have n3 : (Value.type "list" == Value.type "dict") = false := by decide
        have hl1 : (s.heap.push (bare w)).IsList l its := ⟨_, ho1, rfl, n, rfl⟩
        unfold Builtin.«set.__init__» noKeywords Builtin.Frozenset.updateFrom
        generalize hPI : pyIter = PI
        wp_walk
        subst hPI
        refine wpAny_pyIter_list hl1 (wpAny_bind (wpAny_runValue ?_))
        have lt : l < s.heap.objs.size := Heap.lt_size ho
        have h3 : A.in1.in1.in1.handled = none := by simp [hh]
        have sz : (s.heap.push (bare w)).objs.size = s.heap.objs.size + 1 := Heap.size_push ..
        have ne : l ≠ (s.heap.push (bare w)).objs.size := by rw [sz]; exact Nat.ne_of_lt (Nat.lt_succ_of_lt lt)
        have nf : s.heap.objs.size ∉ [(s.heap.push (bare w)).objs.size, l] := by
          rw [sz, List.mem_cons, List.mem_singleton, not_or]
          exact ⟨Nat.ne_of_lt (Nat.lt_succ_self _), Nat.ne_of_gt lt⟩
        have hval : ∀ (i : Nat) (v : Value), its[i]? = some v → ∃ p, ks[i]? = some p ∧ v = p.1 := fun i v hv => by
          have q : its.toList[i]? = some v := by rw [Array.getElem?_toList]; exact hv
          rw [hit, List.getElem?_map] at q
          obtain ⟨p, hp, e⟩ := Option.map_eq_some_iff.mp q
          exact ⟨p, hp, e.symm⟩
        have off : ∀ b, s.heap.objs.size ≤ b → s.heap.get? b = none := fun b hb => by
          cases q : s.heap.get? b with
          | none => rfl
          | some o => exact absurd (Nat.lt_of_lt_of_le (Heap.lt_size q) hb) (Nat.lt_irrefl _)
        refine upd_loop D ((Walks.list h3 _ l ne its).toS) s.heap.objs.size nf ks hz few hval s.heap hk (off _ (Nat.le_refl _)) (fun b hb => off b ?_) hu (its.size - 0) 0 _ (by omega) (Nat.zero_le _)
          ⟨⟨_, Heap.get?_push_size _ rfl, rfl, rfl⟩, hl1.push _⟩ (fun b o e => Heap.get?_push_of_some _ (Heap.get?_push_of_some _ e)) ⟨[], D.nil (Heap.get?_push_of_some _ b1), From.nil⟩ fun s' L mv hL g kp => ?_
        · rw [List.mem_singleton.mp hb, sz]; exact Nat.le_succ _
        · obtain ⟨h', g2, d', tk', os'⟩ := s'
          obtain rfl : g2 = s.gens := mv.gens
          obtain rfl : d' = s.drawn := mv.drawn
          obtain rfl : os' = s.os := mv.os
          show wpAny _ _ _ _ _ _
          refine wpAny_pure ?_
          show wpAny _ _ (ret Value.none) _ _ _
          rw [hz] at g
          exact wpAny_pure ⟨rfl, h', tk', L, rfl, hL, g, kp⟩
      · cases r2 with
        | error e => exact hr2
        | ok f2 =>
          cases f2 with
          | ret r =>
            obtain ⟨rfl, h', tk, L, rfl, hL, g, kp⟩ := hr2
            repeat (any_goals (first | assumption | wp_step))
            exact h _ _ _ hL g kp
          | _ => exact hr2.elim
    | _ => exact hr.elim
end
end Nv

set_option Elab.async false
set_option linter.all false
set_option maxRecDepth 100000
set_option autoImplicit false
set_option maxHeartbeats 4000000
/-! NvSetS: set(list of texts), sorted(set of texts). -/
namespace Nv
open PySem PySem.Spec PyProof.Rows L2

theorem perm_of_few {α : Type} [DecidableEq α] : ∀ (l ys : List α), l.Nodup → (∀ x ∈ l, x ∈ ys) → ys.length ≤ l.length → ys.Perm l
  | [], ys, _, _, h => by
    have : ys = [] := List.eq_nil_of_length_eq_zero (by simpa using h)
    rw [this]
  | x :: l, ys, nd, sub, h => by
    obtain ⟨n1, n2⟩ := List.nodup_cons.mp nd
    have hx := sub x (.head _)
    have pm := List.perm_cons_erase hx
    have hl := pm.length_eq
    rw [List.length_cons] at hl h
    refine pm.trans (.cons x (perm_of_few l (ys.erase x) n2 (fun y hy => ?_) (by omega)))
    have h1 := sub y (.tail _ hy)
    have h2 := pm.mem_iff.mp h1
    rcases List.mem_cons.mp h2 with e | z
    · rw [e] at hy; exact absurd hy n1
    · exact z
def TSt (P : Program) (w : World) (h : Heap) (a : Addr) (L : List (Value × Str)) : Prop :=
  ∃ D : Froz.SD, h.get? a = some (Froz.sObj "set" D) ∧ Froz.TxOk P w D (L.map (·.2)) ∧ Ris D.2.2.place.toList ∧ (w.params.followText "set-order" = true ∨ D.2.2.led = true)
def IsS (_ : Heap) (k : Str) (v : Value) : Prop := ∃ t, v = .str k t
section
variable {P : Program} {w : World} {A : Around} {E : Value → Shared → Prop} {s : Shared}
theorem tail_ris {ep : Nat} {es : Array (Int × Value)} {t : SetTable} {wd : Bool} (r : Ris t.place.toList) : Ris (Froz.tailTx ep es t wd).2.2.place.toList := by
  unfold Froz.tailTx
  split
  · exact relayAll_ris _ _ _
  · exact r
theorem tail_led {ep : Nat} {es : Array (Int × Value)} {t : SetTable} {wd : Bool} : (Froz.tailTx ep es t wd).2.2.led = t.led := by
  unfold Froz.tailTx
  split
  · exact relayAll_led _ _ _
  · rfl
theorem tx_ris {h : Int} {v : Value} {D : Froz.SD} (r : Ris D.2.2.place.toList) : Ris (Froz.addTx h v D).2.2.place.toList := by
  have r1 := layNew_ris D.2.2 D.1 h v r
  unfold Froz.addTx
  refine tail_ris ?_
  split <;> exact r1
theorem tx_led {h : Int} {v : Value} {D : Froz.SD} : (Froz.addTx h v D).2.2.led = D.2.2.led := by
  have r1 := layNew_led D.2.2 D.1 h v
  unfold Froz.addTx
  rw [tail_led]
  split <;> exact r1
/-- a text that is in the set -/
theorem add_in {a : Addr} {D : Froz.SD} {l : List Str} {k : Str} {u : Tok} {Q : Bool → Shared → Prop} (ho : s.heap.get? a = some (Froz.sObj "set" D)) (F : Froz.TxOk P w D l) (hk : k ∈ l) (hb : l.length < scanBound) (h : Q false s) :
    wpAny (model P w) A (setAddHashed a (.str k u) (hashStr w k)) Q E s := by
  obtain ⟨es, ep, t⟩ := D
  have d1 : (Froz.sObj "set" (es, ep, t)).data = .set es ep t := rfl
  have d2 : t.fits es.size = true := F.fit
  have d3 : ElemsOf (strKind P w) es.toList := F.el
  have d4 : es.size = l.length := F.sz
  unfold setAddHashed setAddHashedIn
  refine wpAny_holding (wpAny_bind (wpAny_setState_of ho d1 d2 ?_))
  dsimp only
  rw [byScan_of rfl (by omega) d3]
  simp only [↓reduceIte]
  unfold setAddByScan
  refine wpAny_bind (wpAny_bind (wpAny_rule (wpAny_bind (wpAny_setScan_of (knd := strKind P w) (k := k) (Froz.is_str k u) ho d1 d2 d3 ?_))))
  cases q : es.toList.findIdx? (fun e => (strKind P w).is k e.2) with
  | some j => exact wpAny_pure (wpAny_pure h)
  | none =>
    obtain ⟨e, he, z⟩ := (F.mem k).mp hk
    have := List.findIdx?_eq_none_iff.mp q e he
    rw [z] at this
    cases this
theorem addsS : Adds P w IsS (TSt P w) where
  mono := fun h _ => h
  stay := fun ⟨D, h1, h2⟩ k => ⟨D, k _ h1, h2⟩
  nil := fun {h a} ho => ⟨(#[], 0, .fresh 0 0 (!w.params.followText "set-order")), ho, .nil rfl, List.Pairwise.nil, by
    show _ ∨ (!w.params.followText "set-order") = true
    cases w.params.followText "set-order"
    · exact .inr rfl
    · exact .inl rfl⟩
  add := fun {A E s a L v k Q} hu ⟨D, h1, h2, h3, h4⟩ _ ⟨t, e⟩ few h => by
    subst e
    have few2 : (L.map (·.2)).length + 1 < scanBound := by rw [List.length_map]; unfold scanBound; omega
    unfold setAdd
    refine wpAny_holding (wpAny_bind ((strKind P w).pyHash (k := k) (Froz.is_str k t) ?_))
    by_cases c : k ∈ L.map (·.2)
    · refine add_in (s := { s with toks := s.toks + 1 }) h1 h2 c (by omega) ?_
      exact h false s.heap _ L (Nat.le_succ _) (Heap.SameBut.refl a s.heap) ⟨D, h1, h2, h3, h4⟩ (fun _ => rfl) fun z => absurd c z
    · refine Froz.add_x (s := { s with toks := s.toks + 1 }) h1 h2 c few2 ?_
      refine h true _ _ ((.str k t, k) :: L) (Nat.le_succ _) (Heap.SameBut.update ..) ⟨_, Froz.get_upd _ h1 rfl, Froz.add_ok t h2, tx_ris h3, ?_⟩ (fun z => absurd z c) fun _ => .rfl
      rw [tx_led]
      exact h4
/-- the members as values -/
theorem TSt.vals {a : Addr} {L : List (Value × Str)} {h : Heap} (nd : (L.map (·.2)).Nodup) (S : TSt P w h a L) : ∃ (es : Array (Int × Value)) (ep : Nat) (t : SetTable) (ys : List Str), SetAt h a es ep t ∧ (∃ o, h.get? a = some o ∧ o.ExactSet ∧ o.data = .set es ep t) ∧ t.fits es.size = true ∧ Ris t.place.toList ∧
    (w.params.followText "set-order" = true ∨ t.led = true) ∧ PySem.W.EachIs (IsS h) ys (es.toList.map (·.2)) ∧ ys.Perm (L.map (·.2)) := by
  obtain ⟨⟨es, ep, t⟩, h1, h2, h3, h4⟩ := S
  have key : ∀ l : List (Int × Value), ElemsOf (strKind P w) l → ∃ ys : List Str, PySem.W.EachIs (IsS h) ys (l.map (·.2)) ∧ ∀ k, (∃ e ∈ l, (strKind P w).is k e.2 = true) → k ∈ ys := by
    intro l
    induction l with
    | nil => exact fun _ => ⟨[], .nil, fun k ⟨e, he, _⟩ => by cases he⟩
    | cons x l ih =>
      intro hx
      obtain ⟨ys, y1, y2⟩ := ih hx.tail
      obtain ⟨⟨k, k1, _⟩, _⟩ := hx.head
      have hv : ∃ u, x.2 = .str k u := by
        have k2 : Value.isStrOf k x.2 = true := k1
        cases q : x.2 with
        | str y u =>
          rw [q] at k2
          exact ⟨u, by rw [show y = k by simpa [Value.isStrOf] using k2]⟩
        | _ => rw [q] at k2; simp [Value.isStrOf] at k2
      refine ⟨k :: ys, .cons hv y1, fun k' ⟨e, he, z⟩ => ?_⟩
      rcases List.mem_cons.mp he with q | q
      · rw [q] at z
        rw [(strKind P w).inj x.2 k' k z k1]
        exact .head _
      · exact .tail _ (y2 k' ⟨e, q, z⟩)
  obtain ⟨ys, y1, y2⟩ := key es.toList h2.el
  refine ⟨es, ep, t, ys, ⟨_, h1, rfl, rfl⟩, ⟨_, h1, ⟨rfl, rfl, rfl⟩, rfl⟩, h2.fit, h3, h4, y1, perm_of_few _ _ nd (fun k hk => y2 k ((h2.mem k).mp hk)) ?_⟩
  have l1 := y1.length
  have l2 : es.size = (L.map (·.2)).length := h2.sz
  rw [List.length_map] at l1
  have l3 : es.toList.length = es.size := Array.length_toList
  rw [l1, l3, l2]
  exact Nat.le_refl _
theorem pw_sort (l : List Str) : (l.mergeSort leS).Pairwise fun a b => leS a b = true :=
  List.pairwise_mergeSort (le := leS) (fun a b c p q => decide_eq_true (List.le_trans (of_decide_eq_true p) (of_decide_eq_true q))) (fun a b => by
    rcases List.le_total a.cps.toList b.cps.toList with p | p <;> simp [leS, p]) l
theorem each_swap {h : Heap} : ∀ {ys : List Str} {vs : List Value}, PySem.W.EachIs (IsS h) ys vs → PySem.W.EachIs (fun v b => IsS h b v) vs ys
  | _, _, .nil => .nil
  | _, _, .cons r t => .cons r (each_swap t)
theorem each_perm {α β : Type} {R : α → β → Prop} {vs us : List α} (p : us.Perm vs) : ∀ {bs : List β}, PySem.W.EachIs R vs bs → ∃ cs, PySem.W.EachIs R us cs ∧ cs.Perm bs := by
  induction p with
  | nil => intro bs h; exact ⟨bs, h, .rfl⟩
  | @cons x l m _ ih =>
    intro bs h
    cases h with
    | @cons _ b _ bs r t =>
      obtain ⟨cs, h1, h2⟩ := ih t
      exact ⟨b :: cs, .cons r h1, .cons b h2⟩
  | @swap x y l =>
    intro bs h
    cases h with
    | @cons _ b _ _ r t =>
      cases t with
      | @cons _ c _ bs r2 t2 => exact ⟨c :: b :: bs, .cons r2 (.cons r t2), .swap ..⟩
  | @trans l m n _ _ ih1 ih2 =>
    intro bs h
    obtain ⟨cs, h1, h2⟩ := ih2 h
    obtain ⟨ds, h3, h4⟩ := ih1 h1
    exact ⟨ds, h3, h4.trans h2⟩
theorem alike_strs (ys : List Str) : PySem.W.AllAlike (ys.map PyData.str) := PySem.W.AllAlike.of fun _ _ => rfl
theorem sort_strs {a : Addr} {n : Nat} {vs : List Value} {ys : List Str} {Q : Value → Shared → Prop} (ho : s.heap.get? a = some (seqObj "list" vs.toArray n)) (e : PySem.W.EachIs (fun v b => IsS s.heap b v) vs ys) (hl : ys.length ≤ sizeLine) (hu : A.units + 2 < cLine)
    (h : ∀ out : List Value, PySem.W.EachIs (fun v b => IsS s.heap b v) out (ys.mergeSort leS) → Q .none { s with heap := sortedHeap s.heap a vs out.toArray }) : wpAny (model P w) A (call (.builtin "list.sort") [.ref a]) Q E s := by
  refine PySem.W.list_sort_data (enc := PyData.str) ho e (e.mono fun v b ⟨t, q⟩ => ⟨[], by rw [q]; exact .str b t, by simp⟩) (alike_strs ys) (PySem.W.Sortable.others fun b => ⟨fun z => (by cases z), fun _ z => (by cases z)⟩) hl (fun b _ => ?_) fun out _ q => ?_
  · show A.units + 1 + 0 < cLine
    omega
  · rw [PySem.W.dataLe_str] at q
    exact h out q
/-- sorted(set of texts) -/
theorem sorted_setS {a : Addr} {L : List (Value × Str)} {Q : Value → Shared → Prop} (S : TSt P w s.heap a L) (nd : (L.map (·.2)).Nodup) (few : L.length < 64) (hh : A.handled = none) (hu : A.units + 60 < cLine)
    (h : ∀ s' p c (out : List Value), (∀ b o, s.heap.get? b = some o → s'.heap.get? b = some o) → s'.gens = s.gens → s'.os = s.os → s.heap.objs.size ≤ p → s'.heap.get? p = some (seqObj "list" out.toArray c) →
      PySem.W.EachIs (fun v b => ∃ t, v = Value.str b t) out ((L.map (·.2)).mergeSort leS) → Q (.ref p) s') :
    wpAny (model P w) A (call (.builtin "sorted") [.ref a]) Q E s := by
  obtain ⟨es, ep, t, ys, h1, _, h3, h4, h5, h6, h7⟩ := S.vals nd
  have hl := h6.length
  have hl2 := h7.length_eq
  rw [List.length_map] at hl hl2
  have hl3 : es.size < scanBound := by
    rw [← Array.length_toList, ← hl]
    unfold scanBound
    omega
  refine Calls.call_function_entry kind_sorted plain_sorted entry_sorted (args_sorted1 _) ?_
  unfold Builtin.«sorted»
  refine wpAny_bind (m := checkCount "sorted" 1 1 _) (wpAny_pure ?_)
  refine wpAny_bind (collect_set (A := A.in1) hh h1 h3 hl3 h4 h5 fun s1 vs k1 k2 g1 o1 pm => ?_)
  obtain ⟨zs, z1, z2⟩ := each_perm pm (each_swap h6)
  have hz := z1.length
  have hz2 := z2.length_eq
  refine wpAny_bind (wpAny_newList ?_ (by rw [sizeLine_eq]; omega))
  have ho : (s1.heap.push (seqObj "list" vs.toArray 0)).get? s1.heap.objs.size = some (seqObj "list" vs.toArray 0) := Heap.get?_push_size _ rfl
  refine wpAny_bind (wpAny_holding (sort_strs (s := { s1 with heap := s1.heap.push (seqObj "list" vs.toArray 0) }) ho z1 (by rw [sizeLine_eq]; omega) (by show A.units + 1 + 2 < cLine; omega) fun out q => ?_))
  obtain ⟨c, hc⟩ := sortedHeap_at (vs := vs) (out := out.toArray) ho
  refine wpAny_pure ⟨_, rfl, h _ s1.heap.objs.size c out (fun b u e => ?_) g1 o1 k2 hc ?_⟩
  · have q1 := k1 b u e
    have lt := Heap.lt_size q1
    show (sortedHeap (s1.heap.push (seqObj "list" vs.toArray 0)) s1.heap.objs.size vs out.toArray).get? b = some u
    rw [sortedHeap_old (Nat.ne_of_lt lt) (by rw [size_push']; exact Nat.lt_succ_of_lt lt)]
    exact Heap.get?_push_of_some _ q1
  · have e : zs.mergeSort leS = (L.map (·.2)).mergeSort leS := by
      refine List.Perm.eq_of_pairwise (le := fun a b => leS a b = true) (fun a b _ _ p q => ?_) ?_ ?_ ?_
      · have := List.le_antisymm (of_decide_eq_true p) (of_decide_eq_true q)
        cases a; cases b
        simpa using this
      · exact pw_sort _
      · exact pw_sort _
      · exact (List.mergeSort_perm _ _).trans ((z2.trans h7).trans (List.mergeSort_perm _ _).symm)
    rw [← e]
    exact q
end
end Nv

set_option Elab.async false
set_option linter.all false
set_option maxRecDepth 100000
set_option autoImplicit false
set_option maxHeartbeats 4000000
/-! NvSetT: set(list of tuples), the tuples nested to any depth below nine. -/
namespace Nv
open PySem PySem.Spec PyProof.Rows L2
open SetTable (Probe)

/-- what a set asks of its elements, where they are no plain values -/
structure Side (P : Program) (w : World) {κ : Type} [DecidableEq κ] (Is : Heap → κ → Value → Prop) (kh : κ → Int) (dr : κ → Nat) : Prop where
  mono : ∀ {h h' : Heap} {k : κ} {v : Value}, Is h k v → (∀ b o, h.get? b = some o → h'.get? b = some o) → Is h' k v
  addr : ∀ {h : Heap} {k : κ} {v : Value}, Is h k v → ∃ a, v = .ref a
  hash : ∀ {A : Around} {E : Value → Shared → Prop} {s : Shared} {k : κ} {v : Value} {Q : Int → Shared → Prop}, A.units + 60 < cLine → Is s.heap k v → Q (kh k) { s with toks := s.toks + dr k } → wpAny (model P w) A (pyHash v) Q E s
  same : ∀ {A : Around} {E : Value → Shared → Prop} {s : Shared} {x y : κ} {u v : Value} {Q : Bool → Shared → Prop}, A.units + 60 < cLine → Is s.heap x u → Is s.heap y v → Q (decide (x = y)) s → wpAny (model P w) A (eqBool u v) Q E s
  seen : ∀ {A : Around} {E : Value → Shared → Prop} {s : Shared} {k : κ} {v : Value} {ys : List Value} {Q : Bool → Shared → Prop}, Is s.heap k v → (∀ y ∈ ys, ∃ k', Is s.heap k' y) → Q false s → wpAny (model P w) A (searchCouldBeSeen v ys) Q E s
  byv : ∀ {A : Around} {E : Value → Shared → Prop} {s : Shared} {k : κ} {v : Value} {Q : Bool → Shared → Prop}, Is s.heap k v → (∀ b, Q b s) → wpAny (model P w) A (hashByValue 8 v) Q E s
/-- a set's state with its rows -/
structure NS (w : World) {κ : Type} (kh : κ → Int) (h : Heap) (a : Addr) (L : List (Value × κ)) (es : Array (Int × Value)) (ep : Nat) (t : SetTable) : Prop where
  ob : ∃ o, h.get? a = some o ∧ o.ExactSet ∧ o.data = .set es ep t
  rows : es.toList = L.map fun p => (kh p.2, p.1)
  tab : TabOk t (L.map fun p => kh p.2)
  nd : (L.map (·.2)).Nodup
  led : w.params.followText "set-order" = true ∨ t.led = true
  room : L.length * 5 < t.mask * 3
  few : L.length < 64
/-- the k-th step of a hash's way -/
abbrev stp (t : SetTable) (h : Int) (c : Nat) : Probe := nth t.mask (runAt t.mask (SetTable.bits h % (t.mask + 1)) (SetTable.bits h)) c
theorem stp_dummy (t : SetTable) (h : Int) : ∀ c, (stp t h c).dummy = none := by
  have key : ∀ (n : Nat) (p : Probe), p.dummy = none → (nth t.mask p n).dummy = none := by
    intro n
    induction n with
    | zero => exact fun p h => h
    | succ n ih => exact fun p h => ih (adv t.mask p) (by unfold adv; split <;> exact h)
  exact fun c => key c _ rfl
section
variable {P : Program} {w : World} {A : Around} {E : Value → Shared → Prop} {s : Shared} {κ : Type} {kh : κ → Int}
variable {a : Addr} {L : List (Value × κ)} {es : Array (Int × Value)} {ep : Nat} {t : SetTable}
theorem NS.size (R : NS w kh s.heap a L es ep t) : es.size = L.length := by
  have q := congrArg List.length R.rows
  rwa [Array.length_toList, List.length_map] at q
theorem NS.psz (R : NS w kh s.heap a L es ep t) : t.place.size = L.length := by
  have q := R.tab.sz
  rwa [List.length_map] at q
theorem fits_of {n : Nat} (h1 : t.dummies = #[]) (h2 : t.place.size = n) (h3 : n ≤ t.mask) : t.fits n = true := by
  unfold SetTable.fits SetTable.fill
  rw [h1, Bool.and_eq_true, beq_iff_eq, decide_eq_true_eq]
  exact ⟨h2, by show t.place.size + 0 ≤ t.mask; omega⟩
theorem NS.fit (R : NS w kh s.heap a L es ep t) : t.fits es.size = true := by
  have r := R.room
  rw [R.size]
  exact fits_of R.tab.dm R.psz (by omega)
theorem NS.row (R : NS w kh s.heap a L es ep t) {i : Nat} {p : Value × κ} (h : L[i]? = some p) : es[i]? = some (kh p.2, p.1) := by
  rw [← Array.getElem?_toList, R.rows, List.getElem?_map, h]; rfl
theorem no_gave {m : SetTable} (h : MaskOk m.mask) : ¬ m.gaveWay = true := by
  unfold SetTable.gaveWay
  rw [mask_odd h]
  decide
/-- the search, from step c of the way on -/
theorem seek [DecidableEq κ] {Is : Heap → κ → Value → Prop} {dr : κ → Nat} (D : Side P w Is kh dr) (R : NS w kh s.heap a L es ep t) (hk : ∀ p ∈ L, Is s.heap p.2 p.1) {v : Value} {k : κ} (hx : Is s.heap k v) (hu : A.units + 60 < cLine) {K : Nat}
    (k1 : K < 10 * SetTable.turns t.mask) (k2 : way t.mask (kh k) K ∉ t.place.toList) (k3 : ∀ c, c < K → way t.mask (kh k) c ∈ t.place.toList) {Q : SetFound → Shared → Prop}
    (q1 : k ∈ L.map (·.2) → Q (.there none) s) (q2 : k ∉ L.map (·.2) → Q (.free (way t.mask (kh k) K) false) s) :
    ∀ (f c : Nat) (from_ : Option Probe), from_.getD (t.probeStart (kh k)) = stp t (kh k) c → c ≤ K → K - c < f →
      (∀ (i : Nat) p, L[i]? = some p → p.2 = k → ∃ d, c ≤ d ∧ d < K ∧ t.place.toList[i]? = some (way t.mask (kh k) d)) →
      wpAny (model P w) A (setSearchFrom a v (kh k) true f from_) Q E s := by
  intro f
  induction f with
  | zero => exact fun c _ _ _ z => absurd z (Nat.not_lt_zero _)
  | succ f ih =>
    intro c from_ e0 cK lt mine
    obtain ⟨o, ho, _, hd⟩ := R.ob
    have stepE : ∀ q, nth t.mask (stp t (kh k) c) q = stp t (kh k) (c + q) := fun q => (nth_add t.mask c _ q).symm
    have stepJ : ∀ q, (nth t.mask (stp t (kh k) c) q).j = way t.mask (kh k) (c + q) := fun q => congrArg Probe.j (stepE q)
    have back : c + (K - c) = K := by omega
    have at_ : ∀ (i : Nat) p, L[i]? = some p → (es[i]?.map (·.1)).getD 0 = kh p.2 := fun i p hp => by rw [R.row hp]; rfl
    rw [setSearchFrom_succ]
    refine wpAny_bind (wpAny_setState_of ho hd R.fit ?_)
    dsimp only
    refine wp_if_neg (no_gave R.tab.mok) ?_
    try refine wpAny_bind (wpAny_pure ?_)
    rcases go_spec t R.tab.ris R.tab.dm (fun i => (es[i]?.map (·.1)).getD 0) (kh k) (10 * SetTable.turns t.mask) (K - c) _ (stp_dummy t (kh k) c) (by omega) (fun q hq => by rw [stepJ]; exact k3 _ (by omega)) (by rw [stepJ, back]; exact k2) with ⟨q, i, g1, g2, g3, g4, g5⟩ | ⟨g1, g2⟩
    · rw [stepJ] at g2
      have pr : t.probe (fun i => (es[i]?.map (·.1)).getD 0) (kh k) (from_.getD (t.probeStart (kh k))) = some (.candidate (way t.mask (kh k) (c + q)) i (stp t (kh k) (c + (q + 1)))) := by
        rw [e0, ← stepJ, ← stepE]
        exact g5
      rw [pr]
      dsimp only
      have il : i < L.length := by
        have z := (List.getElem?_eq_some_iff.mp g2).1
        rwa [Array.length_toList, R.psz] at z
      obtain ⟨p, hp⟩ : ∃ p, L[i]? = some p := ⟨_, List.getElem?_eq_getElem il⟩
      have pm : p ∈ L := List.mem_of_getElem? hp
      have live : t.slot (way t.mask (kh k) (c + q)) = .live i := slot_live R.tab.ris g2
      have main : wpAny (model P w) A (searchRest a v (kh k) true f es t (way t.mask (kh k) (c + q)) i (stp t (kh k) (c + (q + 1)))) Q E s := by
        unfold searchRest
        rw [R.row hp]
        dsimp only
        refine wpAny_bind (wpAny_holding (D.same hu (hk p pm) hx (wpAny_bind (wpAny_setState_of ho hd R.fit ?_))))
        dsimp only
        by_cases c1 : p.2 = k
        · exact wp_if_pos (by simp [c1]) (wpAny_pure (q1 (List.mem_map.mpr ⟨p, pm, c1⟩)))
        · refine wp_if_neg (by simp [c1]) ?_
          try refine wpAny_bind (wpAny_pure ?_)
          rw [sameMem]
          dsimp only
          simp only [if_true, live, R.row hp]
          obtain ⟨b, hb⟩ := D.addr (hk p pm)
          rw [hb]
          refine wpAny_bind (wpAny_isSame_ref_self (wpAny_bind (wpAny_pure ?_)))
          simp only [if_true]
          refine wp_if_neg (by simp [c1]) (ih (c + (q + 1)) _ rfl (by omega) (by omega) fun i0 p0 h0 e1 => ?_)
          obtain ⟨d, d1, d2, d3⟩ := mine i0 p0 h0 e1
          refine ⟨d, ?_, d2, d3⟩
          -- a row of the key is not behind
          have e2 := (at_ i0 p0 h0).trans (congrArg kh e1)
          rcases Nat.lt_trichotomy d (c + q) with z | z | z
          · exact absurd e2 (g4 (d - c) i0 (by omega) (by rw [stepJ, show c + (d - c) = d by omega]; exact d3))
          · rw [z] at d3
            have l2 := slot_live R.tab.ris d3
            rw [live] at l2
            injection l2 with l2
            rw [← l2, hp] at h0
            cases h0
            exact absurd e1 c1
          · omega
      by_cases l : t.led = true
      · refine wp_if_neg (by simp [l]) ?_
        try refine wpAny_bind (wpAny_pure ?_)
        exact main
      · refine wp_if_pos (by simp [l]) (wpAny_bind (D.seen hx (fun y hy => ?_) (wp_if_neg (by decide) ?_)))
        · obtain ⟨e, he, rfl⟩ := List.mem_map.mp hy
          have m2 : e ∈ es.toList := by
            have : e ∈ es ∧ e.1 = kh k := by simpa using he
            simpa using this.1
          rw [R.rows] at m2
          obtain ⟨p2, m3, rfl⟩ := List.mem_map.mp m2
          exact ⟨p2.2, hk p2 m3⟩
        · try refine wpAny_bind (wpAny_pure ?_)
          exact main
    · rw [stepJ, back] at g2
      have pr : t.probe (fun i => (es[i]?.map (·.1)).getD 0) (kh k) (from_.getD (t.probeStart (kh k))) = some (.empty (way t.mask (kh k) K) none) := by
        rw [e0]
        exact g2
      rw [pr]
      dsimp only
      refine wpAny_pure (q2 fun m => ?_)
      obtain ⟨p0, m0, e1⟩ := List.mem_map.mp m
      obtain ⟨i0, h0⟩ := List.mem_iff_getElem?.mp m0
      obtain ⟨d, d1, d2, d3⟩ := mine i0 p0 h0 e1
      exact g1 (d - c) i0 (by omega) (by rw [stepJ, show c + (d - c) = d by omega]; exact d3) ((at_ i0 p0 h0).trans (congrArg kh e1))
theorem seek_all [DecidableEq κ] {Is : Heap → κ → Value → Prop} {dr : κ → Nat} (D : Side P w Is kh dr) (R : NS w kh s.heap a L es ep t) (hk : ∀ p ∈ L, Is s.heap p.2 p.1) {v : Value} {k : κ} (hx : Is s.heap k v) (hu : A.units + 60 < cLine) {Q : SetFound → Shared → Prop}
    (q1 : k ∈ L.map (·.2) → Q (.there none) s)
    (q2 : ∀ K, k ∉ L.map (·.2) → way t.mask (kh k) K ∉ t.place.toList → (∀ c, c < K → way t.mask (kh k) c ∈ t.place.toList) → Q (.free (way t.mask (kh k) K) false) s) :
    wpAny (model P w) A (setSearch a v (kh k) true) Q E s := by
  have r := R.room
  obtain ⟨K, k1, k2, k3⟩ := R.tab.first (by rw [List.length_map]; omega) (kh k)
  have big : 10 * SetTable.turns t.mask < 100000 := by
    unfold SetTable.turns
    rcases R.tab.mok with e | e | e <;> omega
  unfold setSearch
  refine seek D R hk hx hu k1 k2 k3 q1 (fun hn => q2 K hn k2 k3) 100000 0 none rfl (Nat.zero_le _) (by omega) fun i p hp e => ?_
  have il : i < t.place.toList.length := by
    rw [Array.length_toList, R.psz]
    exact (List.getElem?_eq_some_iff.mp hp).1
  have hj := List.getElem?_eq_getElem il
  obtain ⟨c, c1, c2⟩ := R.tab.before (h := kh k) k2 (by rw [List.getElem?_map, hp, ← e]; rfl) hj
  exact ⟨c, Nat.zero_le _, c1, by rw [hj, c2]⟩
end
end Nv

set_option Elab.async false
set_option linter.all false
set_option maxRecDepth 100000
set_option autoImplicit false
set_option maxHeartbeats 4000000
/-! NvSetU: adding to a set of tuples. -/
namespace Nv
open PySem PySem.Spec PyProof.Rows L2
section
variable {P : Program} {w : World} {A : Around} {E : Value → Shared → Prop} {s : Shared} {κ : Type} {kh : κ → Int}
variable {a : Addr} {L : List (Value × κ)} {es : Array (Int × Value)} {ep : Nat} {t : SetTable}
/-- rows in another order -/
theorem reorder (es : Array (Int × Value)) (order : Array Nat) (h1 : es.toList = L.map fun p => (kh p.2, p.1)) (h2 : order.toList.Perm (List.range L.length)) :
    ∃ M : List (Value × κ), (order.filterMap (es[·]?)).toList = (M.map fun p => (kh p.2, p.1)) ∧ M.Perm L ∧ (M.map fun p => kh p.2) = order.toList.map fun i => (es.map (·.1)).getD i 0 := by
  have row : ∀ i : Nat, es[i]? = (L[i]?).map fun p => (kh p.2, p.1) := fun i => by rw [← Array.getElem?_toList, h1, List.getElem?_map]
  have pick : ∀ l : List Nat, (∀ i ∈ l, i < L.length) → l.filterMap (fun i => es[i]?) = (l.filterMap fun i => L[i]?).map (fun p => (kh p.2, p.1)) ∧ ((l.filterMap fun i => L[i]?).map fun p => kh p.2) = l.map fun i => (es.map (·.1)).getD i 0 := by
    intro l
    induction l with
    | nil => exact fun _ => ⟨rfl, rfl⟩
    | cons i l ih =>
      intro hl
      obtain ⟨e1, e2⟩ := ih fun j hj => hl j (.tail _ hj)
      have li := List.getElem?_eq_getElem (hl i (.head _))
      have ri : es[i]? = some (kh (L[i]'(hl i (.head _))).2, (L[i]'(hl i (.head _))).1) := by rw [row, li]; rfl
      rw [List.filterMap_cons_some ri, List.filterMap_cons_some li, e1]
      refine ⟨rfl, ?_⟩
      rw [List.map_cons, List.map_cons, e2]
      congr 1
      have : (es.map (·.1))[i]? = some (kh (L[i]'(hl i (.head _))).2) := by rw [Array.getElem?_map, ri]; rfl
      rw [Array.getD_eq_getD_getElem?, this]; rfl
  obtain ⟨e1, e2⟩ := pick order.toList fun i hi => List.mem_range.mp (h2.mem_iff.mp hi)
  refine ⟨_, by rw [Array.toList_filterMap]; exact e1, ?_, e2⟩
  have all : ∀ n, n ≤ L.length → (List.range n).filterMap (fun i => L[i]?) = L.take n := by
    intro n
    induction n with
    | zero => exact fun _ => rfl
    | succ n ih =>
      intro hn
      rw [List.range_succ, List.filterMap_append, ih (Nat.le_of_lt hn), List.take_add_one, List.getElem?_eq_getElem hn, List.filterMap_cons_some (List.getElem?_eq_getElem hn)]
      rfl
  have p1 := h2.filterMap fun i => L[i]?
  rwa [all L.length (Nat.le_refl _), List.take_length] at p1
theorem mid_perm {α : Type} (l : List α) (p : Nat) (x : α) : (l.take p ++ x :: l.drop p).Perm (x :: l) := by
  have q : (l.take p ++ x :: l.drop p).Perm (x :: (l.take p ++ l.drop p)) := List.perm_middle
  rwa [List.take_append_drop] at q
/-- the table laid anew -/
theorem relay {o : Obj} (ho : s.heap.get? a = some o) (hex : o.ExactSet) (hd : o.data = .set es ep t) (rows : es.toList = L.map fun p => (kh p.2, p.1)) (psz : t.place.size = L.length) (dm : t.dummies = #[]) (fl : L.length ≤ t.mask)
    (nd : (L.map (·.2)).Nodup) (ld : w.params.followText "set-order" = true ∨ t.led = true) (few : L.length < 64) {want M : Nat} (w1 : SetTable.sizeAbove want - 1 = M) (w2 : MaskOk M) (w3 : SetTable.sizeAbove want ≤ 128) (w4 : L.length * 5 < M * 3) {Q : Unit → Shared → Prop}
    (hQ : ∀ h' L' es' ep' t', Heap.SameBut a s.heap h' → NS w kh h' a L' es' ep' t' → L'.Perm L → Q () { s with heap := h' }) : wpAny (model P w) A (setRelay a want) Q E s := by
  have sz : es.size = L.length := by
    have q := congrArg List.length rows
    rwa [Array.length_toList, List.length_map] at q
  obtain ⟨t2, order, r1, r2, r3, r4, r5, _, r7⟩ := relaid_ok t (hs := es.map (·.1)) (wanted := want) w1 w2 (by rw [Array.size_map, sz]; omega)
  rw [Array.size_map, sz] at r2
  obtain ⟨N, m1, m2, m3⟩ := reorder es order rows r2
  rw [← m3] at r3
  have sz2 : (order.filterMap (es[·]?)).size = L.length := by
    have q := congrArg List.length m1
    rwa [Array.length_toList, List.length_map, m2.length_eq] at q
  rw [setRelay_eq]
  refine wpAny_bind (wpAny_setState_of ho hd (by rw [sz]; exact fits_of dm psz fl) ?_)
  dsimp only
  refine wp_if_neg (by rw [sizeLine_eq]; omega) ?_
  try refine wpAny_bind (wpAny_pure ?_)
  rw [r1]
  dsimp only
  refine wpAny_bind (wp_if_neg (by rw [sz2, sz]; simp) ?_)
  try refine wpAny_bind (wpAny_pure ?_)
  refine wpAny_pure ?_
  dsimp only
  refine wpAny_storeSet_of ho hd (hQ _ N _ (ep + 1) t2 (Heap.SameBut.update ..) ⟨⟨_, store_at ho hd, ⟨hex.1, hex.2.1, hex.2.2⟩, rfl⟩, m1, r3, (m2.map (·.2)).nodup_iff.mpr nd, by rw [r5]; exact ld, by rw [m2.length_eq, r4]; exact w4, by rw [m2.length_eq]; exact few⟩ m2) (by rw [sz2, sizeLine_eq]; omega)
/-- ADDING -/
theorem put_in [DecidableEq κ] {Is : Heap → κ → Value → Prop} {dr : κ → Nat} (D : Side P w Is kh dr) (R : NS w kh s.heap a L es ep t) (hk : ∀ p ∈ L, Is s.heap p.2 p.1) {v : Value} {k : κ} (hx : Is s.heap k v) (hu : A.units + 60 < cLine) (few : L.length + 1 < 64) {Q : Bool → Shared → Prop}
    (hQ : ∀ b h' L' es' ep' t', Heap.SameBut a s.heap h' → NS w kh h' a L' es' ep' t' → (k ∈ L.map (·.2) → L' = L) → (k ∉ L.map (·.2) → L'.Perm ((v, k) :: L)) → Q b { s with heap := h' }) :
    wpAny (model P w) A (setAddHashed a v (kh k)) Q E s := by
  obtain ⟨o, ho, hex, hd⟩ := R.ob
  have sz := R.size
  have rm := R.room
  obtain ⟨va, hva⟩ := D.addr hx
  unfold setAddHashed
  refine wpAny_holding ?_
  rw [show (100000 : Nat) = 99999 + 1 from rfl, setAddHashedIn_succ]
  refine wpAny_bind (wpAny_setState_of ho hd R.fit ?_)
  dsimp only
  refine wp_if_neg (by rw [hva]; simp [byScan, Value.scannable]) ?_
  try refine wpAny_bind (wpAny_pure ?_)
  refine wpAny_bind (seek_all D R hk hx hu (fun m => ?_) fun K m k2 k3 => ?_)
  · exact wpAny_pure (hQ false s.heap L es ep t (Heap.SameBut.refl a s.heap) R (fun _ => rfl) fun z => absurd m z)
  dsimp only
  refine wpAny_bind (wpAny_setState_of ho hd R.fit ?_)
  dsimp only
  obtain ⟨p1, p2, p3, p4, p5, p6, p7, p8, p9⟩ := R.tab.put k2 k3
  generalize hpt : t.put (way t.mask (kh k) K) = pt at p1 p3 p4 p5 p9 ⊢
  obtain ⟨t1, p⟩ := pt
  dsimp only at p1 p3 p4 p5 p9 ⊢
  subst p1
  rw [List.length_map] at p2 p9
  have e1 : (SetTable.insertAt es (SetTable.below t.place (way t.mask (kh k) K)) (kh k, v)).toList = (L.take (SetTable.below t.place (way t.mask (kh k) K)) ++ (v, k) :: L.drop (SetTable.below t.place (way t.mask (kh k) K))).map fun p => (kh p.2, p.1) := by
    rw [SetTable.toList_insertAt, R.rows, List.map_append, List.map_cons, List.map_take, List.map_drop]
  have e2 : (L.take (SetTable.below t.place (way t.mask (kh k) K)) ++ (v, k) :: L.drop (SetTable.below t.place (way t.mask (kh k) K))).map (fun p => kh p.2) = (L.map fun p => kh p.2).take (SetTable.below t.place (way t.mask (kh k) K)) ++ kh k :: (L.map fun p => kh p.2).drop (SetTable.below t.place (way t.mask (kh k) K)) := by
    rw [List.map_append, List.map_cons, List.map_take, List.map_drop]
  rw [← e2] at p3
  have pm := mid_perm L (SetTable.below t.place (way t.mask (kh k) K)) (v, k)
  generalize L.take (SetTable.below t.place (way t.mask (kh k) K)) ++ (v, k) :: L.drop (SetTable.below t.place (way t.mask (kh k) K)) = L1 at e1 p3 pm
  generalize SetTable.insertAt es (SetTable.below t.place (way t.mask (kh k) K)) (kh k, v) = es1 at e1 ⊢
  have len1 : L1.length = L.length + 1 := pm.length_eq
  have nd1 : (L1.map (·.2)).Nodup := (pm.map (·.2)).nodup_iff.mpr (List.nodup_cons.mpr ⟨m, R.nd⟩)
  have sz1 : es1.size = L1.length := by
    have q := congrArg List.length e1
    rwa [Array.length_toList, List.length_map] at q
  have psz1 : t1.place.size = L1.length := by
    have q := p3.sz
    rwa [List.length_map] at q
  have led1 : w.params.followText "set-order" = true ∨ t1.led = true := by rw [p5]; exact R.led
  -- whatever the table's mark becomes
  have rest : ∀ t2 : SetTable, t2.mask = t1.mask → t2.place = t1.place → t2.dummies = t1.dummies → t2.led = t1.led → TabOk t2 (L1.map fun p => kh p.2) →
      wpAny (model P w) A (storeSet a es1 t2 >>= fun _ => if (!false && t2.tooFull) = true then setRelay a (SetTable.grown (es.size + 1)) >>= fun _ => pure true else pure true) Q E s := fun t2 z1 z2 z3 z4 z5 => by
    refine wpAny_bind (wpAny_storeSet_of ho hd ?_ (by rw [sz1, len1, sizeLine_eq]; omega))
    have sb : Heap.SameBut a s.heap (s.heap.update a (Obj.putSet es1 t2)) := Heap.SameBut.update ..
    have ho1 := store_at (es' := es1) (t' := t2) ho hd
    have fill : t2.fill = L.length + 1 := by
      unfold SetTable.fill at p9 ⊢
      rw [z2, z3]
      exact p9
    by_cases full : t2.tooFull = true
    · refine wp_if_pos (by simp [full]) (wpAny_bind ?_)
      have f2 : (L.length + 1) * 5 ≥ t2.mask * 3 := by
        unfold SetTable.tooFull at full
        rwa [decide_eq_true_eq, fill] at full
      rw [sz]
      have go : ∀ M, SetTable.sizeAbove (SetTable.grown (L.length + 1)) - 1 = M → MaskOk M → SetTable.sizeAbove (SetTable.grown (L.length + 1)) ≤ 128 → (L.length + 1) * 5 < M * 3 → L.length + 1 ≤ t2.mask →
          wpAny (model P w) A (setRelay a (SetTable.grown (L.length + 1))) (fun _ s' => wpAny (model P w) A (pure true) Q E s') E { s with heap := s.heap.update a (Obj.putSet es1 t2) } := fun M y1 y2 y3 y4 y5 => by
        refine relay (s := { s with heap := s.heap.update a (Obj.putSet es1 t2) }) ho1 ⟨hex.1, hex.2.1, hex.2.2⟩ rfl e1 (by rw [z2]; exact psz1) z5.dm (by rw [len1]; exact y5) nd1 (by rw [z4]; exact led1) (by rw [len1]; exact few) y1 y2 y3 (by rw [len1]; exact y4) ?_
        exact fun h2 L2 es2 ep2 t3 sb2 R2 pm2 => wpAny_pure (hQ true h2 L2 es2 ep2 t3 (sb.trans sb2) R2 (fun z => absurd z m) fun _ => pm2.trans pm)
      rcases R.tab.mok with q | q | q
      · have l4 : L.length = 4 := by rw [z1, p4, q] at f2; rw [q] at rm; omega
        exact go 31 (by rw [l4, size_20]) (.inr (.inl rfl)) (by rw [l4, size_20]; decide) (by omega) (by rw [z1, p4, q, l4]; decide)
      · have l4 : L.length = 18 := by rw [z1, p4, q] at f2; rw [q] at rm; omega
        exact go 127 (by rw [l4, size_76]) (.inr (.inr rfl)) (by rw [l4, size_76]; decide) (by omega) (by rw [z1, p4, q, l4]; decide)
      · rw [z1, p4, q] at f2
        omega
    · refine wp_if_neg (by simp [full]) (wpAny_pure (hQ true _ L1 es1 (ep + 1) t2 sb ⟨⟨_, ho1, ⟨hex.1, hex.2.1, hex.2.2⟩, rfl⟩, e1, z5, nd1, by rw [z4]; exact led1, ?_, by rw [len1]; exact few⟩ (fun z => absurd z m) fun _ => pm))
      unfold SetTable.tooFull at full
      rw [decide_eq_true_eq, fill] at full
      rw [len1]
      omega
  have off : wpAny (model P w) A (storeSet a es1 { t1 with plain := false } >>= fun _ => if (!false && ({ t1 with plain := false } : SetTable).tooFull) = true then setRelay a (SetTable.grown (es.size + 1)) >>= fun _ => pure true else pure true) Q E s :=
    rest { t1 with plain := false } rfl rfl rfl rfl ⟨p3.ris, p3.dm, p3.sz, p3.mok, p3.bd, p3.reach⟩
  have on := rest t1 rfl rfl rfl rfl p3
  by_cases pl : t1.plain = true
  · first
      | (refine wpAny_bind ?_; refine wp_if_pos pl ?_; refine D.byv hx fun b => ?_)
      | refine wp_if_pos pl (wpAny_bind (D.byv hx fun b => ?_))
    cases b
    · exact off
    · exact on
  · first
      | (refine wpAny_bind ?_; refine wp_if_neg pl (wpAny_pure ?_))
      | refine wp_if_neg pl (wpAny_bind (wpAny_pure ?_))
    exact on
/-- what stands of the set alone -/
def NSt (w : World) {κ : Type} (kh : κ → Int) (h : Heap) (a : Addr) (L : List (Value × κ)) : Prop := ∃ es ep t, NS w kh h a L es ep t
theorem addsT [DecidableEq κ] {Is : Heap → κ → Value → Prop} {dr : κ → Nat} (D : Side P w Is kh dr) : Adds P w Is (NSt w kh) where
  mono := D.mono
  stay := fun ⟨es, ep, t, R⟩ k => by
    obtain ⟨o, ho, r⟩ := R.ob
    exact ⟨es, ep, t, ⟨o, k o ho, r⟩, R.rows, R.tab, R.nd, R.led, R.room, R.few⟩
  nil := fun {h a} ho => ⟨#[], 0, .fresh 0 0 (!w.params.followText "set-order"), {
    ob := ⟨_, ho, ⟨rfl, rfl, rfl⟩, rfl⟩
    rows := rfl
    tab := ⟨List.Pairwise.nil, rfl, rfl, .inl rfl, fun x hx => (by cases hx), fun i h j hi => (by simp at hi)⟩
    nd := List.nodup_nil
    led := by
      show _ ∨ (!w.params.followText "set-order") = true
      cases w.params.followText "set-order"
      · exact .inr rfl
      · exact .inl rfl
    room := by show 0 * 5 < 7 * 3; decide
    few := by show 0 < 64; decide }⟩
  add := fun {A E s a L v k Q} hu ⟨es, ep, t, R⟩ hk hx few h => by
    unfold setAdd
    refine wpAny_holding (wpAny_bind (D.hash hu hx ?_))
    have up : ∀ {k' : κ} {v' : Value}, Is s.heap k' v' → Is ({ s with toks := s.toks + dr k } : Shared).heap k' v' := fun z => z
    exact put_in (s := { s with toks := s.toks + dr k }) D R hk hx hu few fun b h' L' es' ep' t' sb R' c1 c2 => h b h' _ L' (Nat.le_add_right _ _) sb ⟨es', ep', t', R'⟩ c1 c2
end
end Nv

set_option Elab.async false
set_option linter.all false
set_option maxRecDepth 100000
set_option autoImplicit false
set_option maxHeartbeats 4000000
/-! NvSetN: tuples of numbers, texts, truths, None and such tuples, as a set's elements. -/
namespace Nv
open PySem PySem.Spec PyProof.Rows L2

def IsN (h : Heap) (k : NestedKey) (v : Value) : Prop := (∃ a, v = .ref a) ∧ NestedIs h k v ∧ k.depth ≤ 8
section
variable {P : Program} {w : World}
/-- a question whose answer may be any truth; or is no -/
def AnyB (P : Program) (w : World) (f : Sem Bool) (s : Shared) : Prop := ∀ (A : Around) (E : Value → Shared → Prop) (Q : Bool → Shared → Prop), (∀ b, Q b s) → wpAny (model P w) A f Q E s
def NoB (P : Program) (w : World) (f : Sem Bool) (s : Shared) : Prop := ∀ (A : Around) (E : Value → Shared → Prop) (Q : Bool → Shared → Prop), Q false s → wpAny (model P w) A f Q E s
theorem anyB_pure {b : Bool} {s : Shared} : AnyB P w (pure b) s := fun A E Q h => wpAny_pure (h b)
theorem byv_tup {a : Addr} {o : Obj} {vs : Array Value} {m n : Nat} {s : Shared} (ho : s.heap.get? a = some o) (hc : o.cls = .type "tuple") (hd : o.data = .seq vs m) (hq : ∀ v ∈ vs.toList, AnyB P w (hashByValue n v) s) : AnyB P w (hashByValue (n + 1) (.ref a)) s := fun A E Q h => by
  have hT : s.TypeIs (.ref a) "tuple" := ⟨o, ho, hc⟩
  unfold hashByValue
  refine wpAny_bind (wpAny_specialOf hT F.slot_tuple_hash.lookup ?_)
  show wpAny _ _ (seqItems? (.ref a) >>= fun _ => _) _ _ s
  refine wpAny_bind (wpAny_seqItems ho hd (wpAny_bind ?_))
  show wpAny _ _ (forIn vs _ _) _ _ s
  rw [← Array.forIn_toList]
  refine wpAny_forIn_list _ (fun rest r s' => r.1 = none ∧ s' = s ∧ ∀ v ∈ rest, AnyB P w (hashByValue n v) s) _ ?_ ?_ _ _ ⟨rfl, rfl, hq⟩
  · rintro v rest r s' ⟨hr, rfl, hall⟩
    refine wpAny_bind (hall v (.head _) _ _ _ fun b => ?_)
    cases b
    · simp only [Bool.not_false, if_true]
      exact wpAny_pure (wpAny_pure (h false))
    · simp only [Bool.not_true, Bool.false_eq_true, if_false]
      exact wpAny_pure ⟨rfl, rfl, fun u hu => hall u (.tail _ hu)⟩
  · rintro ⟨r1, r2⟩ s' ⟨hr, rfl, _⟩
    simp only at hr
    subst hr
    exact wpAny_pure (h true)
mutual
theorem byv_key : ∀ (k : NestedKey) (v : Value) (n : Nat) (s : Shared), NestedIs s.heap k v → AnyB P w (hashByValue n v) s
  | .none, _, n, s, x => by cases x; cases n <;> exact anyB_pure
  | .num i, _, n, s, x => by cases x <;> cases n <;> exact anyB_pure
  | .text y, _, n, s, x => by cases x; cases n <;> exact anyB_pure
  | .tup ks, _, n, s, x => by
    cases x with
    | tup ho hc hd hk =>
      cases n with
      | zero => exact anyB_pure
      | succ n => exact byv_tup ho hc hd (byv_keys ks _ n s hk)
theorem byv_keys : ∀ (ks : List NestedKey) (vs : List Value) (n : Nat) (s : Shared), NestedAll s.heap ks vs → ∀ v ∈ vs, AnyB P w (hashByValue n v) s
  | [], _, n, s, x, v, hv => by cases x; cases hv
  | k :: ks, _, n, s, x, v, hv => by
    cases x with
    | cons x1 x2 =>
      rcases List.mem_cons.mp hv with e | hv
      · rw [e]; exact byv_key k _ n s x1
      · exact byv_keys ks _ n s x2 v hv
end
theorem ofc_tup {a : Addr} {o : Obj} {vs : Array Value} {m n : Nat} {s : Shared} (ho : s.heap.get? a = some o) (hc : o.cls = .type "tuple") (hd : o.data = .seq vs m) (hq : ∀ v ∈ vs.toList, NoB P w (ofAClassStatement n v) s) : NoB P w (ofAClassStatement (n + 1) (.ref a)) s := fun A E Q h => by
  have hT : s.TypeIs (.ref a) "tuple" := ⟨o, ho, hc⟩
  unfold ofAClassStatement
  refine wpAny_bind (wpAny_typeOf hT ?_)
  dsimp only
  have e : (("tuple" : String) == "tuple") = true := by decide
  simp only [e, if_true, Bool.not_true, Bool.false_eq_true, if_false]
  try refine wpAny_bind (wpAny_pure ?_)
  try simp only [Bool.not_true, Bool.false_eq_true, if_false]
  show wpAny _ _ (seqItems? (.ref a) >>= fun _ => _) _ _ s
  refine wpAny_bind (wpAny_seqItems ho hd ?_)
  dsimp only
  refine wpAny_bind ?_
  show wpAny _ _ (forIn vs _ _) _ _ s
  rw [← Array.forIn_toList]
  refine wpAny_forIn_list _ (fun rest r s' => r.1 = none ∧ s' = s ∧ ∀ v ∈ rest, NoB P w (ofAClassStatement n v) s) _ ?_ ?_ _ _ ⟨rfl, rfl, hq⟩
  · rintro v rest r s' ⟨hr, rfl, hall⟩
    refine wpAny_bind (hall v (.head _) _ _ _ ?_)
    simp only [Bool.false_eq_true, if_false]
    exact wpAny_pure ⟨rfl, rfl, fun u hu => hall u (.tail _ hu)⟩
  · rintro ⟨r1, r2⟩ s' ⟨hr, rfl, _⟩
    simp only at hr
    subst hr
    exact wpAny_pure h
theorem ofc_plain {n : Nat} {s : Shared} {v : Value} (h : ∀ a, v ≠ .ref a) : NoB P w (ofAClassStatement n v) s := fun A E Q q => by
  have : ofAClassStatement n v = pure false := by
    cases v with
    | ref a => exact absurd rfl (h a)
    | _ => cases n <;> rfl
  rw [this]
  exact wpAny_pure q
mutual
theorem ofc_key : ∀ (k : NestedKey) (v : Value) (n : Nat) (s : Shared), NestedIs s.heap k v → k.depth ≤ n → NoB P w (ofAClassStatement n v) s
  | .none, _, n, s, x, _ => by cases x; exact ofc_plain fun a z => (by cases z)
  | .num i, _, n, s, x, _ => by cases x <;> exact ofc_plain fun a z => (by cases z)
  | .text y, _, n, s, x, _ => by cases x; exact ofc_plain fun a z => (by cases z)
  | .tup ks, _, n, s, x, hn => by
    cases x with
    | tup ho hc hd hk =>
      simp only [NestedKey.depth] at hn
      cases n with
      | zero => omega
      | succ n => exact ofc_tup ho hc hd (ofc_keys ks _ n s hk (by omega))
theorem ofc_keys : ∀ (ks : List NestedKey) (vs : List Value) (n : Nat) (s : Shared), NestedAll s.heap ks vs → NestedKey.depthAll ks ≤ n → ∀ v ∈ vs, NoB P w (ofAClassStatement n v) s
  | [], _, n, s, x, _, v, hv => by cases x; cases hv
  | k :: ks, _, n, s, x, hn, v, hv => by
    cases x with
    | cons x1 x2 =>
      simp only [NestedKey.depthAll] at hn
      rcases List.mem_cons.mp hv with e | hv
      · rw [e]; exact ofc_key k _ n s x1 (by omega)
      · exact ofc_keys ks _ n s x2 (by omega) v hv
end
theorem seen_key {A : Around} {E : Value → Shared → Prop} {s : Shared} {k : NestedKey} {v : Value} {ys : List Value} {Q : Bool → Shared → Prop} (hx : IsN s.heap k v) (hy : ∀ y ∈ ys, ∃ k', IsN s.heap k' y) (h : Q false s) : wpAny (model P w) A (searchCouldBeSeen v ys) Q E s := by
  unfold searchCouldBeSeen
  refine wpAny_bind ?_
  refine wpAny_forIn_list _ (fun rest r s' => r.1 = none ∧ s' = s ∧ ∀ y ∈ rest, ∃ k', IsN s.heap k' y) _ ?_ ?_ _ _ ⟨rfl, rfl, hy⟩
  · rintro y rest r s' ⟨hr, rfl, hall⟩
    obtain ⟨k', y1, y2, y3⟩ := hall y (.head _)
    have more : ∀ u ∈ rest, ∃ k', IsN s'.heap k' u := fun u hu => hall u (.tail _ hu)
    obtain ⟨⟨va, rfl⟩, x2, x3⟩ := hx
    obtain ⟨ya, rfl⟩ := y1
    dsimp only
    by_cases c : (va == ya || (carriedByValue (.ref va) && carriedByValue (.ref ya))) = true
    · exact wp_if_pos c (wpAny_pure ⟨rfl, rfl, more⟩)
    · refine wp_if_neg c ?_
      refine wpAny_bind (quiet_key k (.ref va) 8 s' x2 x3 _ _ _ ?_)
      simp only [Bool.not_true, Bool.false_eq_true, if_false]
      refine wpAny_bind (quiet_key k' (.ref ya) 8 s' y2 y3 _ _ _ ?_)
      simp only [Bool.not_true, Bool.false_eq_true, if_false]
      refine wpAny_bind (ofc_key k (.ref va) 8 s' x2 x3 _ _ _ ?_)
      simp only [Bool.false_eq_true, if_false]
      refine wpAny_bind (ofc_key k' (.ref ya) 8 s' y2 y3 _ _ _ ?_)
      simp only [Bool.false_eq_true, if_false]
      exact wpAny_pure ⟨rfl, rfl, more⟩
  · rintro ⟨r1, r2⟩ s' ⟨hr, rfl, _⟩
    simp only at hr
    subst hr
    exact wpAny_pure h
theorem sideN : Side P w IsN (NestedKey.hash w) NestedKey.draws where
  mono := fun ⟨h1, h2, h3⟩ k => ⟨h1, NestedIs.at (fun a o _ _ q _ => k a o q) _ _ h2, h3⟩
  addr := fun h => h.1
  hash := fun {A E s k v Q} hu ⟨_, h2, h3⟩ h => pyHash_key _ _ _ _ _ h2 (by omega) h
  same := fun {A E s x y u v Q} hu ⟨_, h2, h3⟩ ⟨_, g2, g3⟩ h => eqAt_key x y A s _ _ h2 g2 (by omega) _ _ _ _ (by rw [← NestedKey.decide_eq]; exact h)
  seen := seen_key
  byv := fun {A E s k v Q} ⟨_, h2, _⟩ h => byv_key k v 8 s h2 A E Q h
end
end Nv

set_option Elab.async false
set_option linter.all false
set_option maxRecDepth 100000
set_option autoImplicit false
set_option maxHeartbeats 1000000
/-! NvTg: targets of assignments. -/
namespace Nv
open PySem PySem.Spec PyProof.Rows L2
/-- what may be stored in this context -/
def Stores (scw : Scope) (X : Cx) : Prop := ∀ x : Str, locB scw x = true → L2.Loc X.env.scope x ∧ (X.fn x = true ∨ X.env.scope.names.lookup x = some .local)
def tTg (K : Kw) (tg : Tg) : TG := fun v σ H Q => ∃ ρ l s d, RS K ρ H s ∧ RL K ρ H σ l ∧ RV K ρ H d v ∧ ∃ l1, bindT tg d l = some l1 ∧
  ∀ σ' : L2.St, RL K ρ H σ' l1 → (∀ j, j ∉ tg.slots → σ'[j]? = σ[j]?) → σ'.length = σ.length → Q σ' H
def tTgs (K : Kw) (tg : Tg) : TGs := fun vs σ H Q => ∃ ρ l s ds, RS K ρ H s ∧ RL K ρ H σ l ∧ RVs K ρ H ds vs ∧ ∃ l1, bindTs tg ds l = some l1 ∧
  ∀ σ' : L2.St, RL K ρ H σ' l1 → (∀ j, j ∉ tg.slots → σ'[j]? = σ[j]?) → σ'.length = σ.length → Q σ' H
section
variable {X : Cx} {N : List Str} {scw : Scope}
theorem pg_wk {e : Expr} {t t' : TG} (h : PG X e t) (w : ∀ v σ H Q, t' v σ H Q → t v σ H Q) : PG X e t' := ⟨fun pins s σ H v u Q I r q => h.run pins s σ H v u Q I r (w v σ H Q q)⟩
theorem pgs_wk {e : List Expr} {t t' : TGs} (h : PGs X e t) (w : ∀ v σ H Q, t' v σ H Q → t v σ H Q) : PGs X e t' := ⟨fun pins s σ H v u Q I r q => h.run pins s σ H v u Q I r (w v σ H Q q)⟩
theorem RL.set {K : Kw} {ρ : List Addr} {H : Hp} {σ : L2.St} {l : Loc} {i : Nat} {d : D} {v : V} (h : RL K ρ H σ l) (r : RV K ρ H d v) : RL K ρ H (σ.set i (some v)) (l.set i (some d)) := by
  refine ⟨by rw [List.length_set, List.length_set]; exact h.len, fun j x q => ?_⟩
  by_cases hj : i = j
  · subst hj
    have hlt : i < l.length := by
      have := (List.getElem?_eq_some_iff.mp q).1
      rw [List.length_set] at this
      exact this
    rw [List.getElem?_set_self hlt] at q
    cases q
    exact ⟨v, List.getElem?_set_self (by rw [← h.len]; exact hlt), r⟩
  · rw [List.getElem?_set_ne hj] at q
    obtain ⟨w, h1, h2⟩ := h.at_ j x q
    exact ⟨w, by rw [List.getElem?_set_ne hj]; exact h1, h2⟩
theorem ckT_ok {tg : Tg} {e : Expr} (h : ckT N scw tg e = true) : okE e = true := by
  cases e <;> first | rfl | (cases tg <;> exact Bool.noConfusion (show false = true from h))
theorem assignEach_ok {e : Expr} (h : okE e = true) (es : List Expr) (env : Env) : assignEach (e :: es) env = (false, assign e env) :: assignEach es env := by
  cases e <;> first | rfl | cases h
theorem ckTs_cons {tg : Tg} {e : Expr} {es : List Expr} (h : ckTs N scw tg (e :: es) = true) : ∃ a b, tg = .c a b ∧ ckT N scw a e = true ∧ ckTs N scw b es = true := by
  cases tg with
  | c a b =>
    have h' : (ckT N scw a e && ckTs N scw b es) = true := by simpa [ckTs] using h
    rw [Bool.and_eq_true] at h'
    exact ⟨a, b, rfl, h'.1, h'.2⟩
  | v i => simp [ckTs] at h
  | n => simp [ckTs] at h
theorem ckTs_nil {tg : Tg} (h : ckTs N scw tg [] = true) : tg = .n := by
  cases tg with
  | n => rfl
  | v i => simp [ckTs] at h
  | c a b => simp [ckTs] at h
theorem each_len : ∀ {es : List Expr} {tg : Tg}, ckTs N scw tg es = true → (assignEach es X.env).length = es.length ∧ (assignEach es X.env).findIdx? (·.1) = none
  | [], tg, h => ⟨rfl, rfl⟩
  | e :: es, tg, h => by
    obtain ⟨a, b, rfl, h1, h2⟩ := ckTs_cons h
    obtain ⟨i1, i2⟩ := each_len h2
    rw [assignEach_ok (ckT_ok h1)]
    refine ⟨by rw [List.length_cons, List.length_cons, i1], ?_⟩
    rw [List.findIdx?_cons]
    simp [i2]
theorem bindTs_len : ∀ {es : List Expr} {tg : Tg} {ds : List D} {l l1 : Loc}, ckTs N scw tg es = true → bindTs tg ds l = some l1 → ds.length = es.length
  | [], tg, ds, l, l1, h, q => by
    cases ckTs_nil h
    cases ds with
    | nil => rfl
    | cons d r => simp [bindTs] at q
  | e :: es, tg, ds, l, l1, h, q => by
    obtain ⟨a, b, rfl, h1, h2⟩ := ckTs_cons h
    cases ds with
    | nil => simp [bindTs] at q
    | cons d r =>
      have q' : (bindT a d l).bind (bindTs b r) = some l1 := by simpa [bindTs] using q
      obtain ⟨l2, _, q2⟩ := bindo q'
      rw [List.length_cons, List.length_cons, bindTs_len h2 q2]
theorem pg_any (nm : X.N = N) (nd : N.Nodup) (hc : X.calm = true) (hs : Stores scw X) : ∀ tg : Tg, (∀ e, ckT N scw tg e = true → PG X e (tTg X.kw tg)) ∧ (∀ es, ckTs N scw tg es = true → PGs X es (tTgs X.kw tg)) := by
  have tup : ∀ (tg : Tg) (es : List Expr) (kk : Nat) (p : Pos), ckTs N scw tg es = true → PGs X es (tTgs X.kw tg) → (∀ d l l1, bindT tg d l = some l1 → ∃ ds, d = .tup ds ∧ bindTs tg ds l = some l1) → PG X (.Tuple es kk p) (tTg X.kw tg) := by
    intro tg es kk p h1 h2 h3
    obtain ⟨e1, e2⟩ := each_len (X := X) h1
    refine pg_wk (pg_tup hc h2 e1 e2) fun v σ H Q ⟨ρ, l, s, d, rs, rl, rd, l1, hb, q⟩ => ?_
    obtain ⟨ds, rfl, hb2⟩ := h3 d l l1 hb
    obtain ⟨a, vs, rfl, g1, g2⟩ := rv_tup.mp rd
    exact ⟨a, vs, rfl, g1, by rw [g2.length, bindTs_len h1 hb2], ρ, l, s, ds, rs, rl, g2, l1, hb2, q⟩
  intro tg
  induction tg with
  | v i =>
    refine ⟨fun e h => ?_, fun es h => ?_⟩
    · cases e with
      | Name x p =>
        have h' : (decide (N[i]? = some x) && locB scw x) = true := by simpa [ckT] using h
        rw [Bool.and_eq_true, decide_eq_true_eq] at h'
        obtain ⟨l1, l2⟩ := hs x h'.2
        refine pg_wk (pg_name (i := i) (by rw [nm]; exact nd) (by rw [nm]; exact h'.1) l1 l2) fun v σ H Q ⟨ρ, l, s, d, rs, rl, rd, l1, hb, q⟩ => ?_
        have hb' : (if i < l.length then some (l.set i (some d)) else none) = some l1 := by simpa [bindT] using hb
        split at hb'
        · cases hb'
          refine q _ (rl.set rd) (fun j hj => ?_) (by rw [List.length_set])
          have : i ≠ j := fun z => hj (by rw [z]; simp [Tg.slots])
          rw [List.getElem?_set_ne this]
        · cases hb'
      | _ => simp [ckT] at h
    · cases es with
      | nil => simp [ckTs] at h
      | cons e r => simp [ckTs] at h
  | n =>
    have snd : ∀ es, ckTs N scw .n es = true → PGs X es (tTgs X.kw .n) := fun es h => by
      cases es with
      | cons e r => simp [ckTs] at h
      | nil =>
        refine pgs_wk pgs_nil fun vs σ H Q ⟨ρ, l, s, ds, rs, rl, rd, l1, hb, q⟩ => ?_
        cases ds with
        | cons d r => simp [bindTs] at hb
        | nil =>
          unfold RVs at rd
          have e : l = l1 := by simpa [bindTs] using hb
          subst e
          exact ⟨rd, q σ rl (fun _ _ => rfl) rfl⟩
    refine ⟨fun e h => ?_, snd⟩
    cases e with
    | Tuple es kk p =>
      have h' : ckTs N scw .n es = true := by simpa [ckT] using h
      refine tup .n es kk p h' (snd es h') fun d l l1 q => ?_
      cases d with
      | tup ds => exact ⟨ds, rfl, by simpa [bindT] using q⟩
      | _ => simp [bindT] at q
    | _ => simp [ckT] at h
  | c a b iha ihb =>
    have snd : ∀ es, ckTs N scw (.c a b) es = true → PGs X es (tTgs X.kw (.c a b)) := fun es h => by
      cases es with
      | nil => simp [ckTs] at h
      | cons e r =>
        obtain ⟨a', b', e0, h1, h2⟩ := ckTs_cons h
        cases e0
        refine pgs_wk (pgs_cons (iha.1 e h1) (ihb.2 r h2) (by rw [assignEach_ok (ckT_ok h1)]; rfl)) fun vs σ H Q ⟨ρ, l, s, ds, rs, rl, rd, l1, hb, q⟩ => ?_
        cases ds with
        | nil => simp [bindTs] at hb
        | cons d r =>
          have q' : (bindT a d l).bind (bindTs b r) = some l1 := by simpa [bindTs] using hb
          obtain ⟨l2, q1, q2⟩ := bindo q'
          unfold RVs at rd
          obtain ⟨v, vr, rfl, rd1, rd2⟩ := rd
          refine ⟨v, vr, rfl, ρ, l, s, d, rs, rl, rd1, l2, q1, fun σ1 rl1 k1 n1 => ?_⟩
          refine ⟨ρ, l2, s, r, rs, rl1, rd2, l1, q2, fun σ2 rl2 k2 n2 => ?_⟩
          refine q σ2 rl2 (fun j hj => ?_) (n2.trans n1)
          have hj' : j ∉ a.slots ∧ j ∉ b.slots := by
            constructor
            · intro z; exact hj (by simp [Tg.slots, z])
            · intro z; exact hj (by simp [Tg.slots, z])
          rw [k2 j hj'.2, k1 j hj'.1]
    refine ⟨fun e h => ?_, snd⟩
    cases e with
    | Tuple es kk p =>
      have h' : ckTs N scw (.c a b) es = true := by simpa [ckT] using h
      refine tup (.c a b) es kk p h' (snd es h') fun d l l1 q => ?_
      cases d with
      | tup ds => exact ⟨ds, rfl, by simpa [bindT] using q⟩
      | _ => simp [bindT] at q
    | _ => simp [ckT] at h
end
end Nv

set_option Elab.async false
set_option linter.all false
set_option maxRecDepth 100000
set_option autoImplicit false
set_option maxHeartbeats 1000000
/-! NvZip: zip of a list or a tuple with a list or a tuple. The flag says: a tuple. -/
namespace Nv
open PySem PySem.Spec PyProof.Rows L2 RT RZ
def SqX (K : PySem.W.Frag) (t : Bool) (H : Hp) (a : Addr) (xs : List V) : Prop := match t with
  | true => SqT K H a xs
  | false => SqL K H a xs
def HsX (t : Bool) (h : Heap) (a : Addr) (items : Array Value) : Prop := match t with
  | true => h.IsTuple a items
  | false => h.IsList a items
def NxX (t : Bool) (h : Heap) (it a : Addr) (i : Nat) : Prop := match t with
  | true => h.IsTupleIter it a i
  | false => h.IsListIter it a i
def itO (t : Bool) (a : Addr) : Obj := match t with
  | true => { cls := .type "tuple_iterator", data := .fields #[.ref a, .int 0 0] }
  | false => { cls := .type "list_iterator", data := .fields #[.ref a, .int 0 0] }
theorem draws_x {prog : Program} {w : World} {A : Around} (hh : A.handled = none) (t : Bool) (it a : Addr) (hne : a ≠ it) (items : Array Value) :
    Draws prog w A it [it, a] items.size (fun i v => items[i]? = some v) (fun i h => NxX t h it a i ∧ HsX t h a items) := by
  cases t
  · exact Draws.list hh it a hne items
  · exact Draws.tuple hh it a hne items
theorem begins_x (t : Bool) (a : Addr) (items : Array Value) : Begins (.ref a) (itO t a) fun h => HsX t h a items := by
  cases t
  · exact begins_list a items
  · exact begins_tuple a items
theorem NxX.new {t : Bool} {h : Heap} {it a : Addr} (e : h.get? it = some (itO t a)) : NxX t h it a 0 := by
  cases t
  · exact ⟨_, e, rfl, rfl⟩
  · exact ⟨_, e, rfl, rfl⟩
theorem NxX.ob {t : Bool} {h : Heap} {it a : Addr} {i : Nat} (e : NxX t h it a i) : ∃ o, h.get? it = some o ∧ ∀ v, o.data ≠ .cell v := by
  cases t
  all_goals
    obtain ⟨o, e1, _, d1⟩ := e
    exact ⟨o, e1, fun v q => by rw [d1] at q; cases q⟩
theorem NxX.at {t : Bool} {h h' : Heap} {it a : Addr} {i : Nat} (e : NxX t h it a i) (k : ∀ o, h.get? it = some o → h'.get? it = some o) : NxX t h' it a i := by
  cases t
  · exact Heap.IsListIter.at e k
  · exact Heap.IsTupleIter.at e k
theorem HsX.lt {t : Bool} {h : Heap} {a : Addr} {items : Array Value} (e : HsX t h a items) : a < h.objs.size := by
  cases t
  · obtain ⟨o, q, _⟩ := e; exact Heap.lt_size q
  · obtain ⟨o, q, _⟩ := e; exact Heap.lt_size q
section
variable {X : Cx} {pins : List (Addr × Obj)} {σ : L2.St} {H : Hp} {s : Shared}
theorem sqx_inv {t : Bool} {a : Addr} {xs : List V} (I : Inv X pins σ H s) (q : SqX X.K t H a xs) : ∃ its : List Value, Vals xs its ∧ HsX t s.heap a its.toArray := by
  cases t
  · obtain ⟨its, rv, p, _⟩ := I.list q
    exact ⟨its, rv, p.isList⟩
  · obtain ⟨its, rv, p, _⟩ := I.tuple q
    exact ⟨its, rv, p⟩
theorem sqx_inj {t : Bool} {a : Addr} {xs ys : List V} (I : Inv X pins σ H s) (q : SqX X.K t H a xs) (r : SqX X.K t H a ys) : xs = ys := by
  cases t
  · exact I.list_inj q r
  · exact I.tuple_inj q r
end
def ItzX (K : PySem.W.Frag) (t1 t2 : Bool) (a b : Addr) : It :=
  ⟨fun i H => ∃ (xs ys : List V) (x y : V), SqX K t1 H a xs ∧ SqX K t2 H b ys ∧ xs[i]? = some x ∧ ys[i]? = some y,
    fun i H v H' => ∃ T x y, v = .ref T ∧ H T = none ∧ H' = upd H T (.tup [x, y]) ∧ (∀ xs, SqX K t1 H a xs → xs[i]? = some x) ∧ ∀ ys, SqX K t2 H b ys → ys[i]? = some y,
    fun i H => ∃ xs ys : List V, SqX K t1 H a xs ∧ SqX K t2 H b ys ∧ i ≤ xs.length ∧ i ≤ ys.length ∧ (i = xs.length ∨ i = ys.length)⟩
theorem turn_zipX {P : Program} {w : World} {K : PySem.W.Frag} {elts : List Expr} {kk : Nat} {tpos : Pos} {t1 t2 : Bool} {a b z TI TO i1 i2 : Addr} (D : ZipSep2 z TI TO i1 i2 [i1, a] [i2, b]) (n1 : a ≠ i1) (n2 : b ≠ i2) :
    Turn P w K (.Tuple elts kk tpos) (ItzX K t1 t2 a b) [z, TI, TO, i1, i2] z (fun i h => IsZip h z TI TO .none ∧ IsTupOf2 h TI (.ref i1) (.ref i2) ∧ (∃ x y, IsTupOf2 h TO x y) ∧ NxX t1 h i1 a i ∧ NxX t2 h i2 b i) where
  mem := by simp
  obj := fun i h st c hc => by
    obtain ⟨hz, hTI, ⟨x, y, hTO⟩, h1, h2⟩ := st
    have e' : c = z ∨ c = TI ∨ c = TO ∨ c = i1 ∨ c = i2 := by simpa using hc
    rcases e' with q | q | q | q | q
    · rw [q]; exact ⟨_, hz, fun v q => nomatch q⟩
    · rw [q]; exact ⟨_, hTI, fun v q => nomatch q⟩
    · rw [q]; exact ⟨_, hTO, fun v q => nomatch q⟩
    · rw [q]; exact h1.ob
    · rw [q]; exact h2.ob
  keep := fun i h h' st k => by
    obtain ⟨hz, hTI, ⟨x, y, hTO⟩, h1, h2⟩ := st
    exact ⟨k z (by simp) _ hz, k TI (by simp) _ hTI, ⟨x, y, k TO (by simp) _ hTO⟩, h1.at fun o q => k i1 (by simp) o q, h2.at fun o q => k i2 (by simp) o q⟩
  item := by
    intro X hP hw hK hc i pins s σ H E I hf st hg
    subst hP hw hK
    obtain ⟨hz, hTI, ⟨x0, y0, hTO⟩, h1, h2⟩ := st
    obtain ⟨xs, ys, x, y, hqx, hqy, hx, hy⟩ := hg
    obtain ⟨its, rv, p⟩ := sqx_inv I hqx
    obtain ⟨its2, rv2, p2⟩ := sqx_inv I hqy
    obtain ⟨u, hu, ru⟩ := rv.get hx
    obtain ⟨u2, hu2, ru2⟩ := rv2.get hy
    have hh : X.A.in1.handled = none := I.ok.hd hc
    have hzl : z < s.heap.objs.size := Heap.lt_size hz
    refine wpAny_pyNext_zipD2_item D (draws_x hh t1 i1 a n1 its.toArray) (draws_x hh t2 i2 b n2 its2.toArray) hz hTI hTO ⟨h1, p⟩ ⟨h2, p2⟩
      (by simpa using (List.getElem?_eq_some_iff.mp hu).1) (by simpa using (List.getElem?_eq_some_iff.mp hu2).1) fun v1 v2 h' tk e1 e2 z' TO' h1' h2' hT hsz hk => ?_
    have e1 : its[i]? = some v1 := by simpa using e1
    have e2 : its2[i]? = some v2 := by simpa using e2
    rw [hu] at e1
    rw [hu2] at e2
    cases e1
    cases e2
    refine ⟨_, rfl, wpAny_letOwnedTupleGo_zip (s := { s with heap := h', toks := tk }) z' fun h'' z'' sb => ?_⟩
    have hT2 : h''.get? s.heap.objs.size = some { cls := .type "tuple", data := .seq #[u, u2] } := (sb.2 _ (Nat.ne_of_gt hzl)).trans hT
    have new : ObjOk X.prog X.w (upd H s.heap.objs.size (.tup [x, y])) h'' s.heap.objs.size (.tup [x, y]) :=
      ⟨by show 2 ≤ sizeLine; decide, [u, u2], .cons ru (.cons ru2 .nil), ⟨_, hT2, rfl, _, rfl⟩⟩
    have I1 : Inv X pins σ (upd H s.heap.objs.size (.tup [x, y])) { s with heap := h'', toks := tk } :=
      I.turnedNew (t' := tk) (ch := [z, TI, TO, i1, i2]) (fun c o hb q => (sb.2 c (fun q' => hb (by simp [q']))).trans (hk c o (fun q' => hb (by simp [q'])) (fun q' => hb (by simp [q'])) (fun q' => hb (by simp [q'])) (fun q' => hb (by simp [q'])) q)) hf (Nat.le_refl _) new
    refine ⟨.ref s.heap.objs.size, _, I1, rfl, ⟨_, x, y, rfl, I.hok.fresh (Nat.le_refl _), rfl, fun l hl => by rw [sqx_inj I hl hqx]; exact hx, fun l hl => by rw [sqx_inj I hl hqy]; exact hy⟩, ⟨z'', ?_, ⟨u, u2, ?_⟩, ?_, ?_⟩, fun c hcm => ?_⟩
    · exact (sb.2 _ D.TIz).trans (hk _ _ D.TIz D.TITO D.TIi1 D.TIi2 hTI)
    · exact (sb.2 _ D.TOz).trans TO'
    · exact h1'.1.at fun o q => (sb.2 _ D.zi1.symm).trans q
    · exact h2'.1.at fun o q => (sb.2 _ D.zi2.symm).trans q
    · have hlt : c < s.heap.objs.size := by
        have e' : c = z ∨ c = TI ∨ c = TO ∨ c = i1 ∨ c = i2 := by simpa using hcm
        rcases e' with q | q | q | q | q
        · rw [q]; exact hzl
        · rw [q]; exact Heap.lt_size hTI
        · rw [q]; exact Heap.lt_size hTO
        · rw [q]; obtain ⟨_, e1, _⟩ := h1.ob; exact Heap.lt_size e1
        · rw [q]; obtain ⟨_, e2, _⟩ := h2.ob; exact Heap.lt_size e2
      rw [upd_ne (Nat.ne_of_lt hlt)]
      exact (hf c hcm).1
  done := by
    intro X hP hw hK hc i pins s σ H E I hf st hg
    subst hP hw hK
    obtain ⟨hz, hTI, ⟨x0, y0, hTO⟩, h1, h2⟩ := st
    obtain ⟨xs, ys, hqx, hqy, le1, le2, hend⟩ := hg
    obtain ⟨its, rv, p⟩ := sqx_inv I hqx
    obtain ⟨its2, rv2, p2⟩ := sqx_inv I hqy
    have l1 := rv.length
    have l2 := rv2.length
    have hh : X.A.in1.handled = none := I.ok.hd hc
    exact wpAny_pyNext_zipD2_end D (draws_x hh t1 i1 a n1 its.toArray) (draws_x hh t2 i2 b n2 its2.toArray) hz hTI hTO ⟨h1, p⟩ ⟨h2, p2⟩ (by simp; omega) (by simp; omega) (by simp; omega)
      fun h' tk hk => ⟨rfl, I.turnedL (t' := tk) (ch := [z, TI, TO, i1, i2]) (fun c o hb q =>
      hk c o (fun q' => hb (by simp [q'])) (fun q' => hb (by simp [q'])) (fun q' => hb (by simp [q'])) (fun q' => hb (by simp [q'])) q) hf⟩
  self := fun A i s Q E st h => wpAny_pyIter_zip st.1 h
def iZipX (K : PySem.W.Frag) (ta : TA) : TI := fun σ H R => ta σ H fun vs H1 => ∃ a b t1 t2 xs ys, vs = [.ref a, .ref b] ∧ SqX K t1 H1 a xs ∧ SqX K t2 H1 b ys ∧ R (ItzX K t1 t2 a b) H1
theorem pi_zipX {X : Cx} {e e2 : Expr} {ta : TA} {p pos tpos : Pos} {elts : List Expr} {kk : Nat} (hg : Gl X "zip") (hm : X.mg "zip" = none) (ha : PA X [e, e2] ta)
    (hs : starEach [e, e2] X.env = (false, eval e X.env) :: starEach [e2] X.env := by rfl) (hpl : (backTo pos (starEach [e2] X.env)).any (·.1) = false := by rfl) :
    PI X (.Tuple elts kk tpos) (.Call (.Name "zip" p) [e, e2] [] pos) (iZipX X.K ta) := by
  refine ⟨fun pins s σ H R I h => ?_⟩
  refine Call_ (ld_blt I hg hm PyProof.Rows.boot_zip (PyProof.Rows.callWith_type1 (thn (ha.run pos pins s σ H _ I h) fun us s1 ⟨vs, H1, I1, r1, q1⟩ => ?_) hs hpl))
  obtain ⟨a, b, t1, t2, xs, ys, ex, hqx, hqy, q⟩ := q1
  subst ex
  cases r1 with
  | cons r rr =>
    cases rr with
    | cons r' rr =>
      cases rr
      cases r
      cases r'
      obtain ⟨its, rv, p1⟩ := sqx_inv I1 hqx
      obtain ⟨its2, rv2, p2⟩ := sqx_inv I1 hqy
      have la : a < s1.heap.objs.size := p1.lt
      have lb : b < s1.heap.objs.size := p2.lt
      refine zip_begins2 (begins_x t1 a its.toArray) (begins_x t2 b its2.toArray) p1 p2 fun h' hz hTI hTO h1 h2 hsz hk => wpAny_pyIter_zip hz ?_
      have I2 : Inv X pins σ H1 { s1 with heap := h' } := I1.kept (t' := s1.toks) hk
      refine ⟨s1.heap.objs.size + 4, [s1.heap.objs.size + 4, s1.heap.objs.size + 2, s1.heap.objs.size + 3, s1.heap.objs.size, s1.heap.objs.size + 1], _, _, H1, rfl, I2, turn_zipX (t1 := t1) (t2 := t2) (zip_sep2 (fp1 := [a]) (fp2 := [b]) (by simpa using la) (by simpa using lb)) (Nat.ne_of_lt la) (Nat.ne_of_lt (Nat.lt_succ_of_lt lb)), ⟨hz, hTI, ⟨_, _, hTO⟩, .new h1, .new h2⟩, fun c hcm => ?_, q⟩
      have e' : c = s1.heap.objs.size + 4 ∨ c = s1.heap.objs.size + 2 ∨ c = s1.heap.objs.size + 3 ∨ c = s1.heap.objs.size ∨ c = s1.heap.objs.size + 1 := by simpa using hcm
      have hle : s1.heap.objs.size ≤ c := by
        rcases e' with z | z | z | z | z
        · rw [z]; exact Nat.le_add_right _ _
        · rw [z]; exact Nat.le_add_right _ _
        · rw [z]; exact Nat.le_add_right _ _
        · rw [z]; exact Nat.le_refl _
        · rw [z]; exact Nat.le_add_right _ _
      exact I1.fpOk hle (I1.hok.fresh hle)
end Nv

set_option Elab.async false
set_option linter.all false
set_option maxRecDepth 100000
set_option autoImplicit false
set_option maxHeartbeats 1000000
/-! NvEnum: enumerate of a tuple, of a list. -/
namespace Nv
open PySem PySem.Spec PyProof.Rows L2 RT RZ
theorem meets_enum_new1 {v : Value} {o : Obj} {H : Heap → Prop} (B : Begins v o H) :
    Meets (Builtin.«enumerate.__new__» ⟨[.type "enumerate", v], []⟩) (fun _ R s => H s.heap ∧
      R (.ok (.ret (.ref (s.heap.push o).objs.size))) { s with heap := (s.heap.push o).push { cls := .type "enumerate", data := .fields #[.none, .bool false, .ref s.heap.objs.size, rawInt 0, .none, .none] } }) :=
  .of_wp fun prog w A R s h => by
    obtain ⟨hp, g, d, tk, os⟩ := s; obtain ⟨h1, h⟩ := h
    have hsub := sub_enumerate
    have q1 : ∀ {A' : Around} {E : Value → Shared → Prop} {Q : Value → Shared → Prop}, Q (.ref hp.objs.size) ⟨hp.push o, g, d, tk, os⟩ → wpAny (model prog w) A' (pyIter v) Q E ⟨hp, g, d, tk, os⟩ :=
      fun q => B.iter prog w _ _ ⟨hp, g, d, tk, os⟩ _ h1 q
    wp_walk using q1
    refine wpAny_stack_any fun st => wpAny_pure ?_
    split
    · rename_i c _ _ _ _ _
      cases (c == Value.type "enumerate")
      · wp_walk using q1
        exact ⟨_, rfl, h⟩
      · wp_walk using q1
        exact ⟨_, rfl, h⟩
    · wp_walk using q1
      exact ⟨_, rfl, h⟩
section
variable {prog : Program} {w : World} {A : Around} {E : Value → Shared → Prop} {s : Shared}
theorem enum_begins1 {v : Value} {o : Obj} {H : Heap → Prop} {Q : Value → Shared → Prop} (B : Begins v o H) (h1 : H s.heap)
    (h : ∀ h', IsEnum h' (s.heap.objs.size + 1) s.heap.objs.size 0 .none → h'.get? s.heap.objs.size = some o → h'.objs.size = s.heap.objs.size + 2 →
      (∀ b o, s.heap.get? b = some o → h'.get? b = some o) → Q (.ref (s.heap.objs.size + 1)) { s with heap := h' }) :
    wpAny (model prog w) A (call (.type "enumerate") [v]) Q E s := by
  refine callType_new F.called_enumerate (by decide) (F.typeCall_enumerate_1 _) (F.newCall_enumerate_1 _) (fun obj => F.args_object_init_2 obj _) F.entry_enumerate_new
    (meets_enum_new1 B) ⟨h1, ?_⟩
  have hz : (s.heap.push o).objs.size = s.heap.objs.size + 1 := Heap.size_push ..
  show _ ∧ _
  rw [hz]
  have he : IsEnum ((s.heap.push o).push { cls := .type "enumerate", data := .fields #[.none, .bool false, .ref s.heap.objs.size, rawInt 0, .none, .none] }) (s.heap.objs.size + 1) s.heap.objs.size 0 .none := by
    have := Heap.get?_push_size (s.heap.push o) (o := { cls := .type "enumerate", data := .fields #[.none, .bool false, .ref s.heap.objs.size, rawInt 0, .none, .none] }) rfl
    rw [hz] at this; exact this
  refine ⟨⟨_, he, rfl⟩, h _ he (Heap.get?_push_of_some _ (Heap.get?_push_size _ B.free)) (by rw [Heap.size_push, hz]) fun b o x => Heap.get?_push_of_some _ (Heap.get?_push_of_some _ x)⟩
end
/-- the tuple at a, each item in a new pair -/
def IteT (K : PySem.W.Frag) (a : Addr) : It :=
  ⟨fun i H => ∃ (xs : List V) (x : V), SqT K H a xs ∧ xs[i]? = some x, fun i H v H' => ∃ T x, v = .ref T ∧ H T = none ∧ H' = upd H T (.tup [.int (i : Nat), x]) ∧ ∀ xs, SqT K H a xs → xs[i]? = some x, fun i H => ∃ xs : List V, SqT K H a xs ∧ xs.length = i⟩
theorem turn_enumT {P : Program} {w : World} {K : PySem.W.Frag} {elts : List Expr} {kk : Nat} {tpos : Pos} {a e it : Addr} (n1 : a ≠ it) (n2 : a ≠ e) :
    Turn P w K (.Tuple elts kk tpos) (IteT K a) [e, it] e (fun i h => (∃ old, IsEnum h e it ((i : Nat) : Int) old) ∧ h.IsTupleIter it a i ∧ e ≠ it) where
  mem := by simp
  obj := fun i h st b hb => by
    obtain ⟨⟨old, he⟩, ⟨o, ho, hc, hd⟩, _⟩ := st
    have e' : b = e ∨ b = it := by simpa using hb
    rcases e' with z | z
    · rw [z]; exact ⟨_, he, fun v q => nomatch q⟩
    · rw [z]; exact ⟨o, ho, fun v q => by rw [hd] at q; cases q⟩
  keep := fun i h h' st k => let ⟨⟨old, he⟩, hi, hne⟩ := st; ⟨⟨old, k e (by simp) _ he⟩, Heap.IsTupleIter.at hi fun o q => k it (by simp) o q, hne⟩
  item := by
    intro X hP hw hK hc i pins s σ H E I hf st hg
    subst hP hw hK
    obtain ⟨⟨old, he⟩, hit, hne⟩ := st
    obtain ⟨xs, x, hq, hx⟩ := hg
    obtain ⟨its, rv, p, hz⟩ := I.tuple hq
    obtain ⟨u, hu, ru⟩ := rv.get hx
    have hel : e < s.heap.objs.size := Heap.lt_size he
    have hh : X.A.in1.handled = none := I.ok.hd hc
    refine wpAny_pyNext_enum_itemD (draws_x hh true it a n1 its.toArray) he ⟨hit, p⟩ (by simpa using (List.getElem?_eq_some_iff.mp hu).1) hne (by simp [hne, Ne.symm n2]) fun v h' tk e1 ho hit' hT hsz hk => ?_
    have e1 : its[i]? = some v := by simpa using e1
    rw [hu] at e1
    cases e1
    refine ⟨_, rfl, wpAny_letOwnedTupleGo_enum (s := { s with heap := h', toks := tk + 1 }) ho fun h'' he' sb => ?_⟩
    have hT2 : h''.get? s.heap.objs.size = some { cls := .type "tuple", data := .seq #[.int i tk, u] } := (sb.2 _ (Nat.ne_of_gt hel)).trans hT
    have new : ObjOk X.prog X.w (upd H s.heap.objs.size (.tup [.int (i : Nat), x])) h'' s.heap.objs.size (.tup [.int (i : Nat), x]) :=
      ⟨by show 2 ≤ sizeLine; decide, [.int i tk, u], .cons ⟨_, rfl⟩ (.cons ru .nil), ⟨_, hT2, rfl, _, rfl⟩⟩
    have I1 : Inv X pins σ (upd H s.heap.objs.size (.tup [.int (i : Nat), x])) { s with heap := h'', toks := tk + 1 } :=
      I.turnedNew (t' := tk + 1) (ch := [e, it]) (fun b ob hb q => (sb.2 b (fun z => hb (by simp [z]))).trans (hk b ob (fun z => hb (by simp [z])) (fun z => hb (by simp [z])) q)) hf (Nat.le_refl _) new
    refine ⟨.ref s.heap.objs.size, _, I1, rfl, ⟨_, x, rfl, I.hok.fresh (Nat.le_refl _), rfl, fun ys hy => by rw [I.tuple_inj hy hq]; exact hx⟩, ⟨⟨u, ?_⟩, Heap.IsTupleIter.at hit'.1 fun o q => (sb.2 it (Ne.symm hne)).trans q, hne⟩, fun b hb => ?_⟩
    · have e1 : ((i + 1 : Nat) : Int) = (i : Int) + 1 := by omega
      rw [e1]; exact he'
    · have hil : it < s.heap.objs.size := by obtain ⟨_, q, _⟩ := hit; exact Heap.lt_size q
      have hb' : b < s.heap.objs.size := by
        have e' : b = e ∨ b = it := by simpa using hb
        rcases e' with z | z
        · rw [z]; exact hel
        · rw [z]; exact hil
      rw [upd_ne (Nat.ne_of_lt hb')]
      exact (hf b hb).1
  done := by
    intro X hP hw hK hc i pins s σ H E I hf st hg
    subst hP hw hK
    obtain ⟨⟨old, he⟩, hit, hne⟩ := st
    obtain ⟨xs, hq, hx⟩ := hg
    obtain ⟨its, rv, p, hz⟩ := I.tuple hq
    have hl := rv.length
    have hi : i = its.toArray.size := by simp; omega
    have hh : X.A.in1.handled = none := I.ok.hd hc
    rw [hi] at he hit
    refine wpAny_pyNext_enum_endD (draws_x hh true it a n1 its.toArray) he ⟨hit, p⟩ fun h' eb => ⟨rfl, ?_⟩
    obtain ⟨f0, f1, f2, f3, f4, f5⟩ := hf it (by simp)
    exact I.turned (t' := s.toks) (fun b o hb q => eb b o hb q) f0 f1 f3 f4 f5
  self := fun A i s Q E st h => let ⟨⟨_, he⟩, _⟩ := st; wpAny_pyIter_enum he h
def iEnumX (K : PySem.W.Frag) (ta : TA) : TI := fun σ H R => ta σ H fun vs H1 => ∃ a xs, vs = [.ref a] ∧ ((SqL K H1 a xs ∧ R (Ite K a) H1) ∨ (SqT K H1 a xs ∧ R (IteT K a) H1))
theorem pi_enumX {X : Cx} {e : Expr} {ta : TA} {p pos tpos : Pos} {elts : List Expr} {kk : Nat} (hg : Gl X "enumerate") (hm : X.mg "enumerate" = none) (ha : PA X [e] ta) (hs : starEach [e] X.env = [(false, eval e X.env)] := by rfl) :
    PI X (.Tuple elts kk tpos) (.Call (.Name "enumerate" p) [e] [] pos) (iEnumX X.K ta) := by
  refine ⟨fun pins s σ H R I h => ?_⟩
  refine Call_ (ld_blt I hg hm boot_enumerate (PyProof.Rows.callWith_type1 (thn (ha.run pos pins s σ H _ I h) fun us s1 ⟨vs, H1, I1, r1, q1⟩ => ?_) hs rfl))
  obtain ⟨a, xs, ex, q1⟩ := q1
  subst ex
  cases r1 with
  | cons r rr =>
    cases rr
    cases r
    have fp : ∀ (h' : Heap), ∀ b ∈ [s1.heap.objs.size + 1, s1.heap.objs.size], s1.heap.objs.size ≤ b := fun h' b hb => by
      have e' : b = s1.heap.objs.size + 1 ∨ b = s1.heap.objs.size := by simpa using hb
      rcases e' with z | z
      · rw [z]; exact Nat.le_add_right _ _
      · rw [z]; exact Nat.le_refl _
    rcases q1 with ⟨hq, q⟩ | ⟨hq, q⟩
    · obtain ⟨its, rv, p', hz⟩ := I1.list hq
      refine call_enumerate_list p'.isList fun h' he hit hsz hk => wpAny_pyIter_enum he ?_
      have I2 : Inv X pins σ H1 { s1 with heap := h' } := I1.kept (t' := s1.toks) hk
      exact ⟨s1.heap.objs.size + 1, [s1.heap.objs.size + 1, s1.heap.objs.size], _, _, H1, rfl, I2, turn_enum a (s1.heap.objs.size + 1) s1.heap.objs.size, ⟨⟨.none, he⟩, hit, Nat.succ_ne_self _⟩, fun b hb => I1.fpOk (fp h' b hb) (I1.hok.fresh (fp h' b hb)), q⟩
    · obtain ⟨its, rv, p', hz⟩ := I1.tuple hq
      have ha2 : a < s1.heap.objs.size := by obtain ⟨_, q, _⟩ := p'; exact Heap.lt_size q
      refine enum_begins1 (begins_tuple a its.toArray) p' fun h' he hit hsz hk => wpAny_pyIter_enum he ?_
      have I2 : Inv X pins σ H1 { s1 with heap := h' } := I1.kept (t' := s1.toks) hk
      exact ⟨s1.heap.objs.size + 1, [s1.heap.objs.size + 1, s1.heap.objs.size], _, _, H1, rfl, I2, turn_enumT (Nat.ne_of_lt ha2) (Nat.ne_of_lt (Nat.lt_succ_of_lt ha2)), ⟨⟨.none, he⟩, ⟨_, hit, rfl, rfl⟩, Nat.succ_ne_self _⟩, fun b hb => I1.fpOk (fp h' b hb) (I1.hok.fresh (fp h' b hb)), q⟩
end Nv

set_option Elab.async false
set_option linter.all false
set_option maxRecDepth 100000
set_option autoImplicit false
set_option maxHeartbeats 4000000
/-! NvSnd: each expression of the text keeps what the interpreter says of its term. -/
namespace Nv
open PySem PySem.Spec PyProof.Rows L2 RT RZ
section
variable {T : Tab} {cf : Nat → List D → Sto → Res RD} {k : Nat} {N : List Str}
def SE (T : Tab) (cf : Nat → List D → Sto → Res RD) (k : Nat) (N : List Str) (t : Ex) : Prop :=
  ∀ (X : Cx) (sc : Scope) (W : WX) (e : Expr), Good T cf k N sc X W → (ck T N t).e sc e = true → SndE X (wS X.mg W) e t.tupIt (den cf T.gc t)
def SA (T : Tab) (cf : Nat → List D → Sto → Res RD) (k : Nat) (N : List Str) (t : Ex) : Prop :=
  ∀ (X : Cx) (sc : Scope) (W : WX) (es : List Expr), Good T cf k N sc X W → (ck T N t).l sc es = true → SndA X (wS X.mg W) es (den cf T.gc t).vs
theorem post_ite {α β : Type} {K : Kw} {W : Wx} {R : Hp → List Addr → Hp → α → β → Prop} {ρ : List Addr} {H : Hp} {Q : β → Hp → Prop} {c : Prop} {inst : Decidable c} {r : Res α} (h : Post K W R ρ H Q (if c then r else .no)) : c ∧ Post K W R ρ H Q r := by
  split at h
  · rename_i hc; exact ⟨hc, h⟩
  · exact h.elim
theorem and2 {a b : Bool} (h : (a && b) = true) : a = true ∧ b = true := by rwa [Bool.and_eq_true] at h
/-! leaves -/
theorem s_var (i : Nat) : SE T cf k N (.var i) := by
  intro X sc W e g h
  simp only [ck] at h
  split at h
  · rename_i x p
    obtain ⟨h, h4⟩ := and2 h
    obtain ⟨h, h3⟩ := and2 h
    obtain ⟨h1, h2⟩ := and2 h
    refine snd_mkR rfl rfl (pe_wk (pe_var (i := i) (by rw [g.nm]; exact of_decide_eq_true h1) (by rw [g.sc]; exact vis_of h2) (by simpa using h3) (by simpa using h4)) fun σ H Q ⟨ρ, l, s, rs, rl, hp⟩ => ?_)
    have hp : Post X.kw _ (rRR X.kw) ρ H Q (match l[i]? with | some (some d) => .ok (.d d) s | _ => .no) := hp
    split at hp
    · rename_i d hd
      obtain ⟨v, h5, h6⟩ := rl.at_ i d hd
      exact ⟨v, h5, post_val rs hp h6⟩
    · exact hp.elim
  · cases h
theorem s_int (z : Int) : SE T cf k N (.int z) := by
  intro X sc W e g h
  simp only [ck] at h
  split at h
  · cases of_decide_eq_true h
    exact snd_mkR rfl rfl (pe_wk pe_int fun σ H Q ⟨ρ, l, s, rs, rl, hp⟩ => post_val rs hp (rv_int.mpr rfl))
  · cases h
theorem s_str (z : Str) : SE T cf k N (.str z) := by
  intro X sc W e g h
  simp only [ck] at h
  split at h
  · cases of_decide_eq_true h
    exact snd_mkR rfl rfl (pe_wk pe_str fun σ H Q ⟨ρ, l, s, rs, rl, hp⟩ => post_val rs hp (rv_str.mpr rfl))
  · cases h
theorem s_bl (z : Bool) : SE T cf k N (.bl z) := by
  intro X sc W e g h
  simp only [ck] at h
  split at h
  · cases of_decide_eq_true h
    exact snd_mkR rfl rfl (pe_wk pe_bl fun σ H Q ⟨ρ, l, s, rs, rl, hp⟩ => post_val rs hp (rv_bl.mpr rfl))
  · cases h
theorem s_non : SE T cf k N .non := by
  intro X sc W e g h
  simp only [ck] at h
  split at h
  · exact snd_mkR rfl rfl (pe_wk pe_non fun σ H Q ⟨ρ, l, s, rs, rl, hp⟩ => post_val rs hp (rv_non.mpr rfl))
  · cases h
theorem s_gc (j : Nat) : SE T cf k N (.gc j) := by
  intro X sc W e g h
  simp only [ck] at h
  split at h
  · rename_i x p
    obtain ⟨h1, h2⟩ := and2 h
    obtain ⟨g1, g2, _⟩ := g.gl h2
    obtain ⟨⟨y, d⟩, h3, h4⟩ := Option.map_eq_some_iff.mp (of_decide_eq_true h1)
    have h4 : y = x := h4
    subst h4
    obtain ⟨u, v, h5, h6, h7⟩ := g.con j y d h3
    refine snd_mkR rfl rfl (pe_wk (pe_glob g1 h5 h6 g2) fun σ H Q ⟨ρ, l, s, rs, rl, hp⟩ => ?_)
    have hp : Post X.kw _ (rRR X.kw) ρ H Q (ofO ((T.gc j).map .d) s) := hp
    have e : T.gc j = some d := by unfold Tab.gc; rw [h3]; rfl
    rw [e] at hp
    exact post_val rs hp (h7 ρ H)
  · cases h
/-! lists of expressions -/
theorem s_nil : SA T cf k N .nil := by
  intro X sc W es g h
  simp only [ck] at h
  split at h
  · refine ⟨pa_wk pa_nil fun σ H Q ⟨ρ, l, s, rs, rl, hp⟩ => ?_, fun _ => rfl, fun e r q => by cases q⟩
    have hp : Post X.kw _ (rRVs X.kw) ρ H Q (.ok [] s) := hp
    exact hp ρ H [] .refl rs .nil_
  · cases h
theorem s_cons {a b : Ex} (ha : SE T cf k N a) (hb : SA T cf k N b) : SA T cf k N (.cons a b) := by
  intro X sc W es g h
  simp only [ck] at h
  split at h
  · rename_i e r
    obtain ⟨h1, h2⟩ := and2 h
    have sa := ha X sc W e g h1
    have sb := hb X sc W r g h2
    refine ⟨pa_wk (pa_cons sa.v sb.a (ok_star sa.ok r X.env)) fun σ H Q ⟨ρ, l, s, rs, rl, hp⟩ => ?_, fun pos => ?_, fun e' r' q => by cases q; exact sa.ok⟩
    · have hp : Post X.kw _ (rRVs X.kw) ρ H Q (((den cf T.gc a).v l s).bind fun x s1 => ((den cf T.gc b).vs l s1).bind fun xs s2 => .ok (x :: xs) s2) := hp
      refine ⟨ρ, l, s, rs, rl, hp.bind bkRVs fun x s1 ρ1 H1 v1 e1 rs1 r1 h1 => ⟨ρ1, l, s1, rs1, rl.mono e1, h1.bind bkRVs fun xs s2 ρ2 H2 v2 e2 rs2 r2 h2 => ?_⟩⟩
      exact h2 ρ2 H2 _ .refl rs2 (.cons_ (RV.mono e2 _ _ r1) r2)
    · rw [ok_star sa.ok r X.env]
      show (false || (backTo pos (starEach r X.env)).any (·.1)) = false
      rw [sb.pl pos]
      rfl
  · cases h
theorem s_tup {a : Ex} (ha : SA T cf k N a) : SE T cf k N (.tup a) := by
  intro X sc W e g h
  simp only [ck] at h
  split at h
  · rename_i xs kk p
    have sa := ha X sc W xs g h
    refine snd_mkR rfl rfl (pe_wk (pe_tup sa.a) fun σ H Q ⟨ρ, l, s, rs, rl, hp⟩ => ?_)
    have hp : Post X.kw _ (rRR X.kw) ρ H Q (((den cf T.gc a).vs l s).bind fun xs s1 => if xs.length ≤ sizeLine then .ok (.d (.tup xs)) s1 else .no) := hp
    refine ⟨ρ, l, s, rs, rl, hp.bind bkRR fun ds s1 ρ1 H1 vs e1 rs1 r1 h1 => ?_⟩
    obtain ⟨c, h2⟩ := post_ite h1
    exact ⟨by rw [r1.length]; exact c, fun q hq => post_tup rs1 r1 h2 hq⟩
  · cases h
theorem s_lst {a : Ex} (ha : SA T cf k N a) : SE T cf k N (.lst a) := by
  intro X sc W e g h
  simp only [ck] at h
  split at h
  · rename_i xs p
    have sa := ha X sc W xs g h
    refine snd_mkR rfl rfl (pe_wk (pe_lst sa.a) fun σ H Q ⟨ρ, l, s, rs, rl, hp⟩ => ?_)
    have hp : Post X.kw _ (rRR X.kw) ρ H Q (((den cf T.gc a).vs l s).bind fun xs s1 => if xs.length ≤ sizeLine then .ok (.l xs) s1 else .no) := hp
    refine ⟨ρ, l, s, rs, rl, hp.bind bkRR fun ds s1 ρ1 H1 vs e1 rs1 r1 h1 => ?_⟩
    obtain ⟨c, h2⟩ := post_ite h1
    exact ⟨by rw [r1.length]; exact c, fun q hq => post_laid rs1 r1 h2 hq⟩
  · cases h
/-! operators -/
theorem s_bin {o : Bop} {a b : Ex} (ha : SE T cf k N a) (hb : SE T cf k N b) : SE T cf k N (.bin o a b) := by
  intro X sc W e g h
  simp only [ck] at h
  split at h
  · rename_i x op y p
    obtain ⟨h, h3⟩ := and2 h
    obtain ⟨h1, h2⟩ := and2 h
    cases of_decide_eq_true h1
    have sa := ha X sc W x g h2
    have sb := hb X sc W y g h3
    refine snd_mkR rfl rfl (pe_wk (pe_op (op_bin (W := W0) o) sa.r sb.r) fun σ H Q ⟨ρ, l, s, rs, rl, hp⟩ => ?_)
    exact ⟨ρ, l, s, rs, rl, Post.bind bkRR hp fun x s1 ρ1 H1 v1 e1 rs1 r1 h1 => ⟨ρ1, l, s1, rs1, rl.mono e1, Post.bind bkRR h1 fun y s2 ρ2 H2 v2 e2 rs2 r2 h2 => ⟨H, H1, ρ2, s2, x, y, rs2, RR.mono e2 r1, r2, post_w h2⟩⟩⟩
  · cases h
theorem s_neg {a : Ex} (ha : SE T cf k N a) : SE T cf k N (.neg a) := by
  intro X sc W e g h
  simp only [ck] at h
  split at h
  · rename_i x p
    have sa := ha X sc W x g h
    refine snd_mkR rfl rfl (pe_wk (pe_un un_neg sa.r) fun σ H Q ⟨ρ, l, s, rs, rl, hp⟩ => ?_)
    refine ⟨ρ, l, s, rs, rl, Post.bind bkRR hp fun x s1 ρ1 H1 v1 e1 rs1 r1 h1 => ?_⟩
    split at h1
    · exact ⟨_, rr_int r1, post_val rs1 h1 (rv_int.mpr rfl)⟩
    · exact h1.elim
  · cases h
theorem s_nt {a : Ex} (ha : SE T cf k N a) : SE T cf k N (.nt a) := by
  intro X sc W e g h
  simp only [ck] at h
  split at h
  · rename_i x p
    have sa := ha X sc W x g h
    refine snd_mkB rfl (pe_wk (pe_not sa.r) fun σ H Q ⟨ρ, l, s, rs, rl, hp⟩ => ?_) (pt_wk (pt_not sa.b) fun σ H Q ⟨ρ, l, s, rs, rl, hp⟩ => ?_) fun op xs p q => by cases q
    · refine ⟨ρ, l, s, rs, rl, Post.bind bkRR hp fun x s1 ρ1 H1 v1 e1 rs1 r1 h1 => ?_⟩
      split at h1
      · exact ⟨_, rr_bl r1, post_val rs1 h1 (rv_bl.mpr rfl)⟩
      · exact h1.elim
    · exact ⟨ρ, l, s, rs, rl, Post.bind bkB hp fun x s1 ρ1 H1 v1 e1 rs1 r1 h1 => by cases r1; exact h1 ρ1 H1 _ .refl rs1 rfl⟩
  · cases h
theorem s_cmp {o : Cop} {a b : Ex} (ha : SE T cf k N a) (hb : SE T cf k N b) : SE T cf k N (.cmp o a b) := by
  intro X sc W e g h
  simp only [ck] at h
  split at h
  · rename_i x op y p
    obtain ⟨h, h3⟩ := and2 h
    obtain ⟨h1, h2⟩ := and2 h
    cases of_decide_eq_true h1
    have sa := ha X sc W x g h2
    have sb := hb X sc W y g h3
    refine snd_mkB rfl (pe_wk (pe_cmpR (op_cmp o g.hu) sa.r sb.r (ok_mark sb.ok _)) fun σ H Q ⟨ρ, l, s, rs, rl, hp⟩ => ?_) (pt_wk (pt_cmpR (op_cmp o g.hu) sa.r sb.r (ok_mark sb.ok _)) fun σ H Q ⟨ρ, l, s, rs, rl, hp⟩ => ?_) fun op xs p q => by cases q
    · refine ⟨ρ, l, s, rs, rl, Post.bind bkRR hp fun x s1 ρ1 H1 v1 e1 rs1 r1 h1 => ⟨ρ1, l, s1, rs1, rl.mono e1, Post.bind bkRR h1 fun y s2 ρ2 H2 v2 e2 rs2 r2 h2 => ?_⟩⟩
      obtain ⟨d, e3, h3⟩ := post_o h2
      obtain ⟨t, e4, e5⟩ := Option.map_eq_some_iff.mp e3
      cases e5
      exact ⟨H, H1, ρ2, s2, x, y, t, rs2, RR.mono e2 r1, r2, e4, post_val rs2 h3 (rv_bl.mpr rfl)⟩
    · refine ⟨ρ, l, s, rs, rl, Post.bind bkB hp fun x s1 ρ1 H1 v1 e1 rs1 r1 h1 => ⟨ρ1, l, s1, rs1, rl.mono e1, Post.bind bkB h1 fun y s2 ρ2 H2 v2 e2 rs2 r2 h2 => ?_⟩⟩
      cases e4 : cmpR o s2 x y with
      | none => rw [e4] at h2; exact h2.elim
      | some t =>
        rw [e4] at h2
        exact ⟨H, H1, ρ2, s2, x, y, t, rs2, RR.mono e2 r1, r2, e4, t, rfl, h2 ρ2 H2 t .refl rs2 rfl⟩
  · cases h
theorem s_cmp2 {o o' : Cop} {a b c : Ex} (ha : SE T cf k N a) (hb : SE T cf k N b) (hc : SE T cf k N c) : SE T cf k N (.cmp2 o o' a b c) := by
  intro X sc W e g h
  simp only [ck] at h
  split at h
  · rename_i x op op' y z p
    obtain ⟨h, h5⟩ := and2 h
    obtain ⟨h, h4⟩ := and2 h
    obtain ⟨h, h3⟩ := and2 h
    obtain ⟨h1, h2⟩ := and2 h
    cases of_decide_eq_true h1
    cases of_decide_eq_true h2
    have sa := ha X sc W x g h3
    have sb := hb X sc W y g h4
    have sd := hc X sc W z g h5
    have hm : lastMarks [o.op, o'.op] [y, z] = false := ok_mark sd.ok _
    refine snd_mkB rfl (pe_wk (pe_chain (op_cmp o g.hu) (op_cmp o' g.hu) sa.r sb.r sd.r hm) fun σ H Q ⟨ρ, l, s, rs, rl, hp⟩ => ?_) (pt_wk (pt_chain (op_cmp o g.hu) (op_cmp o' g.hu) sa.r sb.r sd.r hm) fun σ H Q ⟨ρ, l, s, rs, rl, hp⟩ => ?_) fun op xs p q => by cases q
    · refine ⟨ρ, l, s, rs, rl, Post.bind bkRR hp fun x s1 ρ1 H1 v1 e1 rs1 r1 h1 => ⟨ρ1, l, s1, rs1, rl.mono e1, Post.bind bkRR h1 fun y s2 ρ2 H2 v2 e2 rs2 r2 h2 => ?_⟩⟩
      cases e4 : cmpR o s2 x y with
      | none => rw [e4] at h2; exact h2.elim
      | some t =>
        rw [e4] at h2
        refine ⟨H, H1, ρ2, s2, x, y, t, rs2, RR.mono e2 r1, r2, e4, t, rfl, ?_⟩
        cases t with
        | false =>
          rw [if_neg Bool.false_ne_true]
          exact post_val rs2 h2 (rv_bl.mpr rfl)
        | true =>
          rw [if_pos rfl]
          refine ⟨ρ2, l, s2, rs2, (rl.mono e1).mono e2, Post.bind bkRR h2 fun z s3 ρ3 H3 v3 e3 rs3 r3 h3 => ?_⟩
          obtain ⟨d, e5, h6⟩ := post_o h3
          obtain ⟨t2, e6, e7⟩ := Option.map_eq_some_iff.mp e5
          cases e7
          exact ⟨H1, H2, ρ3, s3, y, z, t2, rs3, RR.mono e3 r2, r3, e6, post_val rs3 h6 (rv_bl.mpr rfl)⟩
    · refine ⟨ρ, l, s, rs, rl, Post.bind bkB hp fun x s1 ρ1 H1 v1 e1 rs1 r1 h1 => ⟨ρ1, l, s1, rs1, rl.mono e1, Post.bind bkB h1 fun y s2 ρ2 H2 v2 e2 rs2 r2 h2 => ?_⟩⟩
      cases e4 : cmpR o s2 x y with
      | none => rw [e4] at h2; exact h2.elim
      | some t =>
        rw [e4] at h2
        refine ⟨H, H1, ρ2, s2, x, y, t, rs2, RR.mono e2 r1, r2, e4, t, rfl, ?_⟩
        cases t with
        | false =>
          rw [if_neg Bool.false_ne_true]
          exact ⟨false, rfl, h2 ρ2 H2 false .refl rs2 rfl⟩
        | true =>
          rw [if_pos rfl]
          refine ⟨ρ2, l, s2, rs2, (rl.mono e1).mono e2, Post.bind bkB h2 fun z s3 ρ3 H3 v3 e3 rs3 r3 h3 => ?_⟩
          cases e6 : cmpR o' s3 y z with
          | none => rw [e6] at h3; exact h3.elim
          | some t2 =>
            rw [e6] at h3
            exact ⟨H1, H2, ρ3, s3, y, z, t2, rs3, RR.mono e3 r2, r3, e6, t2, rfl, h3 ρ3 H3 t2 .refl rs3 rfl⟩
  · cases h
theorem kin_ok {K : Kw} {ρ : List Addr} {H H0 : Hp} {x : RD} {v : V} {kvs : List (Str × Int)} {t : Bool} (r : RR K H0 ρ H x v) (h : kinR kvs x = some t) : ∃ z, v = .str z ∧ t = (kvs.lookup z).isSome := by
  unfold kinR at h
  split at h
  · cases h; exact ⟨_, rr_str r, rfl⟩
  · cases h
theorem s_kin {j : Nat} {kvs : List (Str × Int)} {a : Ex} (ha : SE T cf k N a) : SE T cf k N (.kin j kvs a) := by
  intro X sc W e g h
  simp only [ck] at h
  split at h
  · rename_i x y p1 p
    obtain ⟨h, h3⟩ := and2 h
    obtain ⟨h1, h2⟩ := and2 h
    have sa := ha X sc W x g h3
    obtain ⟨g1, g2, _⟩ := g.gl h2
    obtain ⟨d, es, n, k1, k2, k3, _⟩ := (g.kds j y kvs (of_decide_eq_true h1)).is
    have pg : PE X (.Name y p1) (tC (.ref d)) := pe_glob g1 k1 rfl g2
    refine snd_mkB rfl (pe_wk (pe_cmpR (op_in_kd k2) sa.r pg (ok_mark (e := .Name y p1) rfl _)) fun σ H Q ⟨ρ, l, s, rs, rl, hp⟩ => ?_) (pt_wk (pt_cmpR (op_in_kd k2) sa.r pg (ok_mark (e := .Name y p1) rfl _)) fun σ H Q ⟨ρ, l, s, rs, rl, hp⟩ => ?_) fun op xs p q => by cases q
    · refine ⟨ρ, l, s, rs, rl, Post.bind bkRR hp fun x s1 ρ1 H1 v1 e1 rs1 r1 h1 => ?_⟩
      obtain ⟨d2, e5, h6⟩ := post_o h1
      obtain ⟨t2, e6, e7⟩ := Option.map_eq_some_iff.mp e5
      cases e7
      obtain ⟨z, ez, rfl⟩ := kin_ok r1 e6
      obtain ⟨r, q1, q2⟩ := k3 z
      rw [← q2] at h6
      exact ⟨z, r, ez, rfl, q1, post_val rs1 h6 (rv_bl.mpr rfl)⟩
    · refine ⟨ρ, l, s, rs, rl, Post.bind bkB hp fun x s1 ρ1 H1 v1 e1 rs1 r1 h1 => ?_⟩
      cases e6 : kinR kvs x with
      | none => rw [e6] at h1; exact h1.elim
      | some t2 =>
        rw [e6] at h1
        obtain ⟨z, ez, rfl⟩ := kin_ok r1 e6
        obtain ⟨r, q1, q2⟩ := k3 z
        rw [← q2] at h1
        exact ⟨z, r, ez, rfl, q1, r.isSome, rfl, h1 ρ1 H1 _ .refl rs1 rfl⟩
  · cases h
theorem s_kix {j : Nat} {kvs : List (Str × Int)} {a : Ex} (ha : SE T cf k N a) : SE T cf k N (.kix j kvs a) := by
  intro X sc W e g h
  simp only [ck] at h
  split at h
  · rename_i y p1 x p
    obtain ⟨h, h3⟩ := and2 h
    obtain ⟨h1, h2⟩ := and2 h
    have sa := ha X sc W x g h3
    obtain ⟨g1, g2, _⟩ := g.gl h2
    obtain ⟨d, es, n, k1, k2, _, k4⟩ := (g.kds j y kvs (of_decide_eq_true h1)).is
    have pg : PE X (.Name y p1) (tC (.ref d)) := pe_glob g1 k1 rfl g2
    refine snd_mkR rfl rfl (pe_wk (pe_ix ix_kdict pg sa.r (ok_ix sa.ok)) fun σ H Q ⟨ρ, l, s, rs, rl, hp⟩ => ?_)
    refine ⟨ρ, l, s, rs, rl, Post.bind bkRR hp fun x s1 ρ1 H1 v1 e1 rs1 r1 h1 => ?_⟩
    obtain ⟨d2, e5, h6⟩ := post_o h1
    unfold kixR at e5
    split at e5
    · rename_i z
      obtain ⟨i, q1, q2⟩ := Option.map_eq_some_iff.mp e5
      cases q2
      exact ⟨d, z, .int i, rfl, rr_str r1, k4 z i q1, post_val rs1 h6 (rv_int.mpr rfl)⟩
    · cases e5
  · cases h
theorem s_and {a b : Ex} (ha : SE T cf k N a) (hb : SE T cf k N b) : SE T cf k N (.and a b) := by
  have go : ∀ (X : Cx) (W : WX) (x y : Expr) (r : List Expr) (p : Pos), SndE X (wS X.mg W) x a.tupIt (den cf T.gc a) → PE X (.BoolOp .And (y :: r) p) (tR X.kw (wS X.mg W) (den cf T.gc b).r) → PW X (.BoolOp .And (y :: r) p) (tBb X.kw (wS X.mg W) (den cf T.gc b).b) → SndE X (wS X.mg W) (.BoolOp .And (x :: y :: r) p) false (den cf T.gc (.and a b)) := by
    intro X W x y r p sa sr sw
    have wb : PW X (.BoolOp .And (x :: y :: r) p) (tBb X.kw (wS X.mg W) (den cf T.gc (.and a b)).b) := pw_wk (pw_and sa.b sw) fun σ H Q ⟨ρ, l, s, rs, rl, hp⟩ => by
      refine ⟨ρ, l, s, rs, rl, Post.bind bkB hp fun t s1 ρ1 H1 v1 e1 rs1 r1 h1 => ?_⟩
      cases r1
      cases t with
      | true => exact iteT ⟨ρ1, l, s1, rs1, rl.mono e1, h1⟩
      | false => exact iteF (h1 ρ1 H1 false .refl rs1 rfl)
    refine snd_mkB rfl (pe_wk (pe_and sa.r sr) fun σ H Q ⟨ρ, l, s, rs, rl, hp⟩ => ?_) wb.pt fun op xs p q => by cases q; exact wb
    refine ⟨ρ, l, s, rs, rl, Post.bind bkRR hp fun t s1 ρ1 H1 v1 e1 rs1 r1 h1 => ?_⟩
    split at h1
    · exact ⟨true, rr_bl r1, iteT ⟨ρ1, l, s1, rs1, rl.mono e1, h1⟩⟩
    · exact ⟨false, rr_bl r1, iteF (post_val rs1 h1 (rv_bl.mpr rfl))⟩
    · exact h1.elim
  intro X sc W e g h
  simp only [ck] at h
  split at h
  · rename_i x y p
    obtain ⟨h1, h2⟩ := and2 h
    have sb := hb X sc W y g h2
    exact go X W x y [] p (ha X sc W x g h1) (pe_one sb.r) (pw_and1 sb.b)
  · rename_i x y z r p
    obtain ⟨h1, h2⟩ := and2 h
    have sb := hb X sc W _ g h2
    exact go X W x y (z :: r) p (ha X sc W x g h1) sb.r (sb.w _ _ _ rfl)
  · cases h
theorem s_or {a b : Ex} (ha : SE T cf k N a) (hb : SE T cf k N b) : SE T cf k N (.or a b) := by
  have go : ∀ (X : Cx) (W : WX) (x y : Expr) (r : List Expr) (p : Pos), SndE X (wS X.mg W) x a.tupIt (den cf T.gc a) → PE X (.BoolOp .Or (y :: r) p) (tR X.kw (wS X.mg W) (den cf T.gc b).r) → PW X (.BoolOp .Or (y :: r) p) (tBb X.kw (wS X.mg W) (den cf T.gc b).b) → SndE X (wS X.mg W) (.BoolOp .Or (x :: y :: r) p) false (den cf T.gc (.or a b)) := by
    intro X W x y r p sa sr sw
    have wb : PW X (.BoolOp .Or (x :: y :: r) p) (tBb X.kw (wS X.mg W) (den cf T.gc (.or a b)).b) := pw_wk (pw_or sa.b sw) fun σ H Q ⟨ρ, l, s, rs, rl, hp⟩ => by
      refine ⟨ρ, l, s, rs, rl, Post.bind bkB hp fun t s1 ρ1 H1 v1 e1 rs1 r1 h1 => ?_⟩
      cases r1
      cases t with
      | true => exact iteT (h1 ρ1 H1 true .refl rs1 rfl)
      | false => exact iteF ⟨ρ1, l, s1, rs1, rl.mono e1, h1⟩
    refine snd_mkB rfl (pe_wk (pe_or sa.r sr) fun σ H Q ⟨ρ, l, s, rs, rl, hp⟩ => ?_) wb.pt fun op xs p q => by cases q; exact wb
    refine ⟨ρ, l, s, rs, rl, Post.bind bkRR hp fun t s1 ρ1 H1 v1 e1 rs1 r1 h1 => ?_⟩
    split at h1
    · exact ⟨false, rr_bl r1, iteF ⟨ρ1, l, s1, rs1, rl.mono e1, h1⟩⟩
    · exact ⟨true, rr_bl r1, iteT (post_val rs1 h1 (rv_bl.mpr rfl))⟩
    · exact h1.elim
  intro X sc W e g h
  simp only [ck] at h
  split at h
  · rename_i x y p
    obtain ⟨h1, h2⟩ := and2 h
    have sb := hb X sc W y g h2
    exact go X W x y [] p (ha X sc W x g h1) (pe_one sb.r) (pw_or1 sb.b)
  · rename_i x y z r p
    obtain ⟨h1, h2⟩ := and2 h
    have sb := hb X sc W _ g h2
    exact go X W x y (z :: r) p (ha X sc W x g h1) sb.r (sb.w _ _ _ rfl)
  · cases h
theorem s_ife {c a b : Ex} (hc : SE T cf k N c) (ha : SE T cf k N a) (hb : SE T cf k N b) : SE T cf k N (.ife c a b) := by
  intro X sc W e g h
  simp only [ck] at h
  split at h
  · rename_i z x y p
    obtain ⟨h, h3⟩ := and2 h
    obtain ⟨h1, h2⟩ := and2 h
    refine snd_mkQ rfl (fun _ _ _ q => by cases q) (pe_wk (pe_ifExp (hc X sc W z g h1).b (ha X sc W x g h2).r (hb X sc W y g h3).r) fun σ H Q ⟨ρ, l, s, rs, rl, hp⟩ => ?_)
    refine ⟨ρ, l, s, rs, rl, Post.bind bkRR hp fun t s1 ρ1 H1 v1 e1 rs1 r1 h1 => ?_⟩
    cases r1
    cases t with
    | true => exact iteT ⟨ρ1, l, s1, rs1, rl.mono e1, h1⟩
    | false => exact iteF ⟨ρ1, l, s1, rs1, rl.mono e1, h1⟩
  · cases h
/-! calls -/
theorem ckl_nil {t : Ex} {sc : Scope} (h : (ck T N t).l sc [] = true) : t = .nil := by
  cases t <;> first | rfl | (simp only [ck, noL] at h; exact Bool.noConfusion h)
theorem pl_tail {X : Cx} {e : Expr} {r : List Expr} {m : M (List D)} {W : L2.St → Wx} (sa : SndA X W (e :: r) m) (pos : Pos) : (backTo pos (starEach r X.env)).any (·.1) = false := by
  have h := sa.pl pos
  rw [ok_star (sa.hd e r rfl) r X.env] at h
  have h : (false || (backTo pos (starEach r X.env)).any (·.1)) = false := h
  rwa [Bool.false_or] at h
theorem pe_callS0 {X : Cx} {CX : CXT} {k : Nat} {f : Addr} {fd : FuncData} {ps : List Str} {sp : Sp} {E : L2.St → XK} {x : Str} {p pos : Pos} (F : FnOk X.prog X.w X.K X.mg X.base CX k f fd ps sp) (hr : Room k X.A) (hg : Gl X x) (hm : X.mg x = some (.ref f)) (hk : PySem.W.keepIn X.K (.ref f) = true) (hb : Binds X.K fd ps []) (hx : ∀ σ, PassesAt CX X σ (E σ))
    (hdb : (x == ("__debug__" : Str)) = false) : PE X (.Call (.Name x p) [] [] pos) (tCallS sp E tNil) := by
  refine ⟨fun pins s σ H Q I h => ?_⟩
  refine wpAny_Call_Name_kw (ld_glob I hg hm ?_ hdb)
  exact PySem.W.callWith_K0 I.kIn hk (run_fnS (us := []) F hr hb (hx σ) I .nil h)
theorem s_call {f : Nat} {es : Ex} (he : SA T cf k N es) : SE T cf k N (.call f es) := by
  intro X sc W e g h
  simp only [ck] at h
  split at h
  · rename_i x px xs p
    obtain ⟨h, h3⟩ := and2 h
    obtain ⟨h1, h2⟩ := and2 h
    obtain ⟨g1, g2, _⟩ := g.gl h2
    obtain ⟨F, h4, h5⟩ := Option.map_eq_some_iff.mp (of_decide_eq_true h1)
    obtain ⟨fa, fd, k1, k2, k3, k4⟩ := g.fns f F h4
    rw [h5] at k1
    have sa := he X sc W xs g h3
    have fin : ∀ (σ : L2.St) (Q : VK) (ρ : List Addr) (H : Hp) (s : Sto) (ds : List D) (vs : List V), RS X.kw ρ H s → RVs X.kw ρ H ds vs → Post X.kw (wS X.mg W σ) (rRR X.kw) ρ H Q (cf f ds s) → spOf X.kw X.mg (cf f) vs H Q (WE W σ) := fun σ Q ρ H s ds vs rs rv h => ⟨ρ, s, ds, rs, rv, h⟩
    have pe : PE X (.Call (.Name x px) xs [] p) (tR X.kw (wS X.mg W) (den cf T.gc (.call f es)).r) := by
      cases xs with
      | nil =>
        have q := ckl_nil h3
        subst q
        refine pe_wk (pe_callS0 k4 g.room g1 k1 k2 k3 (passAt g.tk) g2) fun σ H Q ⟨ρ, l, s, rs, rl, hp⟩ => ?_
        exact fin σ Q ρ H s [] [] rs .nil_ hp
      | cons e r =>
        refine pe_wk (pe_callS k4 g.room g1 k1 k2 k3 (passAt g.tk) sa.a g2 (ok_star (sa.hd e r rfl) r X.env) (pl_tail sa p)) fun σ H Q ⟨ρ, l, s, rs, rl, hp⟩ => ?_
        refine ⟨ρ, l, s, rs, rl, Post.bind bkRR hp fun ds s1 ρ1 H1 vs e1 rs1 r1 h1 => fin σ Q ρ1 H1 s1 ds vs rs1 r1 h1⟩
    exact snd_mkR rfl rfl pe
  · cases h
/-! a fresh list that will never change -/
def tFrz (t : TE) : TE := fun σ H Q => t σ H fun v H1 => Q v H1 ∨ ∃ a u, v = .ref a ∧ H1 a = some u ∧ L2.Mut (some u) ∧ ∀ od, Q v (upd H1 a (.frz od u))
theorem pe_frz {X : Cx} {e : Expr} {t : TE} (h : PE X e t) : PE X e (tFrz t) := by
  refine ⟨fun pins s σ H Q I q => ?_⟩
  refine thn (h.run pins s σ H _ I q) fun v s1 ⟨x, H1, I1, r, q1⟩ => ?_
  rcases q1 with q1 | ⟨a, vs, rfl, h1, hm, q1⟩
  · exact ⟨x, H1, I1, r, q1⟩
  · obtain ⟨od, I2⟩ := I1.lock h1 hm
    exact ⟨_, _, I2, r, q1 od⟩
/-- what is locked -/
theorem frz_rr {K : Kw} {ρ ρ1 : List Addr} {H H1 : Hp} {s1 : Sto} {x : RD} {v : V} (e1 : Ext K ρ H ρ1 H1) (rs1 : RS K ρ1 H1 s1) (r1 : RR K H ρ1 H1 x v) : RR K H ρ1 H1 (frzR x) v ∨
    ∃ a u, v = .ref a ∧ H1 a = some u ∧ L2.Mut (some u) ∧ ∀ od, Ext K ρ H ρ1 (upd H1 a (.frz od u)) ∧ RS K ρ1 (upd H1 a (.frz od u)) s1 ∧ RR K H ρ1 (upd H1 a (.frz od u)) (frzR x) v := by
  cases x with
  | d x => exact .inl r1
  | l xs =>
    obtain ⟨p, vs, rfl, h3, h4, h5, h6⟩ := r1
    refine .inr ⟨p, _, rfl, h3, trivial, fun od => ⟨e1.pokeA h6 (.lst h3), rs1.pokeA (.lst h3) h5, ?_⟩⟩
    show RV _ _ _ (.lf xs) _
    unfold RV
    exact ⟨p, vs, rfl, .inl ⟨od, upd_same⟩, h4.pokeA (.lst h3)⟩
  | m kvs =>
    unfold frzR
    by_cases hk : dK kvs = true
    case neg => simp only [hk]; exact .inl r1
    simp only [hk, if_true]
    obtain ⟨p, rfl, h2, h5, h6⟩ := r1
    obtain ⟨vs, h3, h4, h7⟩ := h2.dk hk
    refine .inr ⟨p, _, rfl, h3, trivial, fun od => ⟨e1.pokeA h6 (.dK h3), rs1.pokeA (.dK h3) h5, ?_⟩⟩
    show RV _ _ _ (.ld (kvs.map (·.1)) (kvs.map (·.2))) _
    unfold RV
    exact ⟨p, od, vs, rfl, upd_same, h4, h7.pokeA (.dK h3)⟩
theorem s_frz {a : Ex} (ha : SE T cf k N a) : SE T cf k N (.frz a) := by
  intro X sc W e g h
  simp only [ck] at h
  obtain ⟨h, h2⟩ := and2 h
  obtain ⟨h1, _⟩ := and2 h
  have sa := ha X sc W e g h2
  refine snd_mkR sa.ok h1 (pe_wk (pe_frz sa.r) fun σ H Q ⟨ρ, l, s, rs, rl, hp⟩ => ⟨ρ, l, s, rs, rl, ?_⟩)
  have hp : Post X.kw _ (rRR X.kw) ρ H Q (((den cf T.gc a).r l s).bind fun x s1 => .ok (frzR x) s1) := hp
  cases hm : (den cf T.gc a).r l s with
  | no => rw [hm] at hp; exact hp
  | ex x s1 => rw [hm] at hp; exact hp
  | ok x s1 =>
    rw [hm] at hp
    have hp : ∀ ρ' H' v, Ext X.kw ρ H ρ' H' → RS X.kw ρ' H' s1 → RR X.kw H ρ' H' (frzR x) v → Q v H' := hp
    intro ρ1 H1 v e1 rs1 r1
    rcases frz_rr e1 rs1 r1 with q | ⟨a, u, rfl, h1, h2, q⟩
    · exact .inl (hp ρ1 H1 v e1 rs1 q)
    · refine .inr ⟨a, u, rfl, h1, h2, fun od => ?_⟩
      obtain ⟨q1, q2, q3⟩ := q od
      exact hp ρ1 _ _ q1 q2 q3
theorem s_b1 {f : B1} {a : Ex} (ha : SE T cf k N a) : SE T cf k N (.b1 f a) := by
  intro X sc W e g h
  simp only [ck] at h
  split at h
  · rename_i x px y p
    obtain ⟨h, h4⟩ := and2 h
    obtain ⟨h, h3⟩ := and2 h
    obtain ⟨h1, h2⟩ := and2 h
    obtain ⟨g1, g2, g3⟩ := g.gl h2
    have sa := ha X sc W y g h4
    have hb := b1_boot f
    rw [← of_decide_eq_true h1] at hb
    refine snd_mkR rfl rfl (pe_wk (pe_callV (b1_kind f) (call_b1 (W := W0) f g.calm) g1 (g.blt x h3) hb (pa_r sa.ok sa.r) g3 g2 (ok_star sa.ok [] X.env) rfl) fun σ H Q ⟨ρ, l, s, rs, rl, hp⟩ => ?_)
    exact ⟨ρ, l, s, rs, rl, Post.bind bkRR hp fun x s1 ρ1 H1 v1 e1 rs1 r1 h1 => ⟨v1, H, ρ1, s1, x, rfl, rs1, r1, post_w h1⟩⟩
  · cases h
theorem s_b2 {f : B2} {a b : Ex} (ha : SE T cf k N a) (hb : SE T cf k N b) : SE T cf k N (.b2 f a b) := by
  intro X sc W e g h
  simp only [ck] at h
  split at h
  · rename_i x px y z p
    obtain ⟨h, h5⟩ := and2 h
    obtain ⟨h, h4⟩ := and2 h
    obtain ⟨h, h3⟩ := and2 h
    obtain ⟨h1, h2⟩ := and2 h
    obtain ⟨g1, g2, g3⟩ := g.gl h2
    have sa := ha X sc W y g h4
    have sb := hb X sc W z g h5
    have hb := b2_boot f
    rw [← of_decide_eq_true h1] at hb
    refine snd_mkR rfl rfl (pe_wk (pe_callV (b2_kind f) (call_b2 (W := W0) f g.calm) g1 (g.blt x h3) hb (pa_cons sa.r (pa_r sb.ok sb.r) (ok_star sa.ok _ X.env)) g3 g2 (ok_star sa.ok _ X.env) (by rw [ok_star sb.ok]; rfl)) fun σ H Q ⟨ρ, l, s, rs, rl, hp⟩ => ?_)
    exact ⟨ρ, l, s, rs, rl, Post.bind bkRR hp fun x s1 ρ1 H1 v1 e1 rs1 r1 h1 => ⟨ρ1, l, s1, rs1, rl.mono e1, Post.bind bkRR h1 fun y s2 ρ2 H2 v2 e2 rs2 r2 h2 => ⟨v1, v2, H, H1, ρ2, s2, x, y, rfl, rs2, RR.mono e2 r1, r2, post_w h2⟩⟩⟩
  · cases h
theorem s_isin {a : Ex} {t : Ty} (ha : SE T cf k N a) : SE T cf k N (.isin a t) := by
  intro X sc W e g h
  simp only [ck] at h
  split at h
  · rename_i x px y z pz p
    obtain ⟨h, h7⟩ := and2 h
    obtain ⟨h, h6⟩ := and2 h
    obtain ⟨h, h5⟩ := and2 h
    obtain ⟨h, h4⟩ := and2 h
    obtain ⟨h, h3⟩ := and2 h
    obtain ⟨h1, h2⟩ := and2 h
    obtain ⟨g1, g2, g3⟩ := g.gl h2
    obtain ⟨z1, z2, z3⟩ := g.gl h6
    have sa := ha X sc W y g h4
    have hz := ty_boot t
    rw [← of_decide_eq_true h5] at hz
    have pz' : PE X (.Name z pz) (tC (.ty t.name)) := pe_bltn (v := .ty t.name) z1 (g.blt z h7) hz rfl z3 z2
    have hx : bootBuiltins x = some (.builtin "isinstance") := by rw [of_decide_eq_true h1]; decide +kernel
    refine snd_mkR rfl rfl (pe_wk (pe_callB (call_isin (W := W0) t) g1 (g.blt x h3) hx (pa_cons sa.r (pa_cons pz' pa_nil) (ok_star sa.ok _ X.env)) g3 g2 (ok_star sa.ok _ X.env) rfl) fun σ H Q ⟨ρ, l, s, rs, rl, hp⟩ => ?_)
    exact ⟨ρ, l, s, rs, rl, Post.bind bkRR hp fun x s1 ρ1 H1 v1 e1 rs1 r1 h1 => ⟨v1, H, ρ1, s1, x, rfl, rs1, r1, post_w h1⟩⟩
  · cases h
/-! methods -/
theorem base_ok {y : Expr} (h : notCall0 y = true) (name : Str) (env : Env) : attributeBase y name env (eval y env) = eval y env := by
  cases y with
  | Call f as ks p =>
    cases as with
    | nil => cases h
    | cons a r => cases f <;> rfl
  | _ => rfl
theorem ty_lst {K : Kw} {ρ : List Addr} {H : Hp} {s : Sto} {i : Nat} {xs : List D} {v : V} (rs : RS K ρ H s) (r : RV K ρ H (.obj i) v) (h : s[i]? = some (.lst xs)) : tyV K "list" v H := by
  obtain ⟨p, vs, rfl, h1, h2, h3⟩ := obj_lst rs r h
  exact .inl ⟨rfl, vs, SqL.of h2⟩
theorem post_m0 {K : Kw} {W W' : Wx} {ρ : List Addr} {H : Hp} {Q : VK} {m : M0} {d : D} {s : Sto} (h : Post K W (rRR K) ρ H Q (m0R m d s)) : Post K W' (rRR K) ρ H Q (m0R m d s) := by
  cases e : m0R m d s with
  | ok a s1 => rw [e] at h; exact h
  | no => rw [e] at h; exact h
  | ex x s1 =>
    unfold m0R at e
    split at e
    · split at e
      · cases e
      · cases e
      · split at e <;> cases e
      · cases e
    · cases e
theorem post_m1 {K : Kw} {W W' : Wx} {ρ : List Addr} {H : Hp} {Q : VK} {m : M1} {d : D} {a : RD} {s : Sto} (h : Post K W (rRR K) ρ H Q (m1R m d a s)) : Post K W' (rRR K) ρ H Q (m1R m d a s) := by
  cases e : m1R m d a s with
  | ok a s1 => rw [e] at h; exact h
  | no => rw [e] at h; exact h
  | ex x s1 =>
    unfold m1R at e
    split at e
    · split at e
      · split at e <;> cases e
      · split at e
        · split at e <;> cases e
        · cases e
      · cases e
    · cases e
theorem m0_ty {K : Kw} {ρ : List Addr} {H : Hp} {s : Sto} {m : M0} {d : D} {v : V} {Q : VK} (rs : RS K ρ H s) (r : RV K ρ H d v) (h : Post K W0 (rRR K) ρ H Q (m0R m d s)) : tyV K "list" v H := by
  unfold m0R at h
  split at h
  · split at h
    · rename_i e; exact ty_lst rs r e
    · rename_i e; exact ty_lst rs r e
    · rename_i e; exact ty_lst rs r e
    · exact h.elim
  · exact h.elim
theorem s_m0 {m : M0} {o : Ex} (ho : SE T cf k N o) : SE T cf k N (.m0 m o) := by
  intro X sc W e g h
  simp only [ck] at h
  split at h
  · rename_i y x ap cp
    obtain ⟨h, h4⟩ := and2 h
    obtain ⟨h, h3⟩ := and2 h
    obtain ⟨h1, h2⟩ := and2 h
    cases of_decide_eq_true h1
    have so := ho X sc W y g h4
    have pe : PE X (.Call (.Attribute y (m.name : Str) ap) [] [] cp) (tBM0 X.K "list" (rM X.kw W0 (m0R m)) (tVv X.kw (wS X.mg W) (den cf T.gc o).v)) := by
      cases m with
      | reverse => exact pe_bm0 PySem.F.plainAttrs_list PySem.F.slot_list_reverse PySem.F.type_list_reverse (mt_m0 (W := W0) .reverse) so.v (base_ok h3 _ _) h2
      | clear => exact pe_bm0 PySem.F.plainAttrs_list PySem.F.slot_list_clear PySem.F.type_list_clear (mt_m0 (W := W0) .clear) so.v (base_ok h3 _ _) h2
      | pop => exact pe_bm0 PySem.F.plainAttrs_list PySem.F.slot_list_pop PySem.F.type_list_pop (mt_m0 (W := W0) .pop) so.v (base_ok h3 _ _) h2
    refine snd_mkR rfl rfl (pe_wk pe fun σ H Q ⟨ρ, l, s, rs, rl, hp⟩ => ?_)
    refine ⟨ρ, l, s, rs, rl, Post.bind bkRR hp fun d s1 ρ1 H1 v1 e1 rs1 r1 h1 => ⟨m0_ty rs1 r1 (post_m0 h1), ρ1, s1, d, rfl, rs1, r1, post_m0 h1⟩⟩
  · cases h
theorem isLst_ty {K : Kw} {ρ : List Addr} {H : Hp} {s : Sto} {d : D} {v : V} (rs : RS K ρ H s) (r : RV K ρ H d v) (h : isLstB s d = true) : tyV K "list" v H := by
  unfold isLstB at h
  split at h
  · rename_i i
    cases e : lstAt s i with
    | none => rw [e] at h; cases h
    | some xs =>
      unfold lstAt at e
      split at e
      · rename_i ys ey; exact ty_lst rs r ey
      · cases e
  · cases h
theorem rv_rr {K : Kw} {H0 : Hp} {ρ : List Addr} {H : Hp} {d : D} {v : V} (r : RV K ρ H d v) : RR K H0 ρ H (.d d) v := r
theorem s_m1 {m : M1} {o a : Ex} (ho : SE T cf k N o) (ha : SE T cf k N a) : SE T cf k N (.m1 m o a) := by
  intro X sc W e g h
  simp only [ck] at h
  split at h
  · rename_i y x ap z cp
    obtain ⟨h, h5⟩ := and2 h
    obtain ⟨h, h4⟩ := and2 h
    obtain ⟨h, h3⟩ := and2 h
    obtain ⟨h1, h2⟩ := and2 h
    cases of_decide_eq_true h1
    have so := ho X sc W y g h4
    have sa := ha X sc W z g h5
    have few : ((backTo cp (starEach [z] X.env)).all (fun x => !x.1) && (backToKw cp (keywordEach [] X.env)).all (fun x => x.1.isSome)
      && decide (([z] : List Expr).length + ([] : List Keyword).length + (if ([] : List Keyword).isEmpty then 0 else 1) < 30)) = true := by
      rw [ok_star sa.ok]
      rfl
    cases m with
    | append =>
      refine snd_mkR rfl rfl (pe_wk (pe_bm PySem.F.plainAttrs_list PySem.F.slot_list_append PySem.F.type_list_append (mt_m1 (W := W0) .append) so.v (pa_cons sa.v pa_nil (ok_star sa.ok [] X.env)) (base_ok h3 _ _) few h2 (ok_star sa.ok [] X.env) rfl) fun σ H Q ⟨ρ, l, s, rs, rl, hp⟩ => ?_)
      refine ⟨ρ, l, s, rs, rl, Post.bind bkRR hp fun d s1 ρ1 H1 v1 e1 rs1 r1 h1 => ?_⟩
      obtain ⟨c, h2⟩ := post_ite h1
      exact ⟨isLst_ty rs1 r1 c, ρ1, l, s1, rs1, rl.mono e1, Post.bind bkRR h2 fun y s2 ρ2 H2 v2 e2 rs2 r2 h3 => ⟨v2, H2, ρ2, s2, d, .d y, rfl, rs2, RV.mono e2 _ _ r1, r2, post_m1 h3⟩⟩
    | extend =>
      refine snd_mkR rfl rfl (pe_wk (pe_bm PySem.F.plainAttrs_list PySem.F.slot_list_extend PySem.F.type_list_extend (mt_m1 (W := W0) .extend) so.v (pa_cons sa.r pa_nil (ok_star sa.ok [] X.env)) (base_ok h3 _ _) few h2 (ok_star sa.ok [] X.env) rfl) fun σ H Q ⟨ρ, l, s, rs, rl, hp⟩ => ?_)
      refine ⟨ρ, l, s, rs, rl, Post.bind bkRR hp fun d s1 ρ1 H1 v1 e1 rs1 r1 h1 => ?_⟩
      obtain ⟨c, h2⟩ := post_ite h1
      exact ⟨isLst_ty rs1 r1 c, ρ1, l, s1, rs1, rl.mono e1, Post.bind bkRR h2 fun y s2 ρ2 H2 v2 e2 rs2 r2 h3 => ⟨v2, H1, ρ2, s2, d, y, rfl, rs2, RV.mono e2 _ _ r1, r2, post_m1 h3⟩⟩
  · cases h
theorem s_rng3 {a b c : Ex} (ha : SE T cf k N a) (hb : SE T cf k N b) (hc : SE T cf k N c) : SE T cf k N (.rng3 a b c) := by
  intro X sc W e g h
  simp only [ck] at h
  split at h
  · rename_i x px y z v p
    obtain ⟨h, h6⟩ := and2 h
    obtain ⟨h, h5⟩ := and2 h
    obtain ⟨h, h4⟩ := and2 h
    obtain ⟨h, h3⟩ := and2 h
    obtain ⟨h1, h2⟩ := and2 h
    cases of_decide_eq_true h1
    obtain ⟨g1, g2, g3⟩ := g.gl h2
    have sa := ha X sc W y g h4
    have sb := hb X sc W z g h5
    have sc2 := hc X sc W v g h6
    have st1 := ok_star sa.ok [z, v] X.env
    have st2 := ok_star sb.ok [v] X.env
    have st3 := ok_star sc2.ok [] X.env
    have pa := pa_cons sa.r (pa_cons sb.r (pa_r sc2.ok sc2.r) st2) st1
    refine snd_mkI rfl (fun _ _ _ q => by cases q) fun tg htg => ?_
    refine pi_wk (pi_range3 g1 (g.blt _ h3) pa st1 (by rw [st2, st3]; rfl)) fun σ H R ⟨ρ, l, s, rs, rl, hp⟩ => ?_
    refine ⟨ρ, l, s, rs, rl, Post.bind bkIt hp fun x s1 ρ1 H1 v1 e1 rs1 r1 h1 => ⟨ρ1, l, s1, rs1, rl.mono e1, Post.bind bkIt h1 fun y s2 ρ2 H2 v2 e2 rs2 r2 h2 => ⟨ρ2, l, s2, rs2, (rl.mono e1).mono e2, Post.bind bkIt h2 fun z s3 ρ3 H3 v3 e3 rs3 r3 h3 => ?_⟩⟩⟩
    cases er : rng3R x y z with
    | none => rw [er] at h3; exact h3.elim
    | some its =>
      rw [er] at h3
      unfold rng3R at er
      split at er
      · rename_i i j q
        split at er
        · rename_i hh
          cases er
          refine ⟨i, j, q, _, by rw [rr_int (RR.mono e3 (RR.mono e2 r1)), rr_int (RR.mono e3 r2), rr_int r3], ⟨hh.1, hh.2.1, hh.2.2, PyProof.Rows.rangeSize_toNat i j q⟩, h3 ρ3 H3 _ .refl rs3 it_steps⟩
        · cases er
      · cases er
  · cases h
/-! dicts; what is never reached -/
theorem s_any : SE T cf k N .any := by
  intro X sc W e g h
  exact ⟨(and2 h).1, pe_no, pt_no, fun _ _ _ _ => ⟨fun _ _ _ _ _ _ _ ⟨_, _, _, _, _, h⟩ => h.elim⟩, fun _ _ => pi_no⟩
theorem s_dnew : SE T cf k N .dnew := by
  intro X sc W e g h
  simp only [ck] at h
  split at h
  · rename_i p
    refine snd_mkR rfl rfl (pe_wk pe_dnewK fun σ H Q ⟨ρ, l, s, rs, rl, hp⟩ q hq => ?_)
    have hp : Post X.kw _ (rRR X.kw) ρ H Q (.ok (.m []) s) := hp
    exact hp ρ _ (.ref q) (Ext.laid hq) (rs.laid hq) ⟨q, rfl, .inl ⟨[], upd_same, rfl, by show RVs _ _ _ [] _; unfold RVs; rfl⟩, rs.fresh hq, hq⟩
  · cases h
theorem dct_some {s : Sto} {a : RD} (h : (dctAt s a).isSome = true) : ∃ kvs, dctAt s a = some kvs := by
  cases e : dctAt s a with
  | none => rw [e] at h; cases h
  | some kvs => exact ⟨kvs, rfl⟩
theorem s_dget {o a b : Ex} (ho : SE T cf k N o) (ha : SE T cf k N a) (hb : SE T cf k N b) : SE T cf k N (.dget o a b) := by
  intro X sc W e g h
  simp only [ck] at h
  split at h
  · rename_i y m ap z w cp
    obtain ⟨h, h6⟩ := and2 h
    obtain ⟨h, h5⟩ := and2 h
    obtain ⟨h, h4⟩ := and2 h
    obtain ⟨h, h3⟩ := and2 h
    obtain ⟨h1, h2⟩ := and2 h
    cases of_decide_eq_true h1
    have so := ho X sc W y g h4
    have sa := ha X sc W z g h5
    have sb := hb X sc W w g h6
    have st : starEach [z, w] X.env = [(false, eval z X.env), (false, eval w X.env)] := by rw [ok_star sa.ok, ok_star sb.ok]; rfl
    have mm : L2.M2 X y "get" ap z w cp := ⟨base_ok h3 _ _, by rw [st]; rfl, h2, by rw [st]; rfl⟩
    refine snd_mkR rfl rfl (pe_wk (pe_dget2 (by have := g.hu; omega) so.r sa.r sb.v mm) fun σ H Q ⟨ρ, l, s, rs, rl, hp⟩ => ?_)
    refine ⟨ρ, l, s, rs, rl, Post.bind bkRR hp fun d s1 ρ1 H1 v1 e1 rs1 r1 h1 => ?_⟩
    obtain ⟨c, h2⟩ := post_ite h1
    obtain ⟨kvs, ek⟩ := dct_some c
    obtain ⟨p, vs, rfl, hp1, _⟩ := dctAt_ok rs1 r1 ek
    refine ⟨p, rfl, .inl ⟨vs, hp1⟩, ρ1, l, s1, rs1, rl.mono e1, Post.bind bkRR h2 fun kd s2 ρ2 H2 v2 e2 rs2 r2 h3 => ⟨ρ2, l, s2, rs2, (rl.mono e1).mono e2, Post.bind bkRR h3 fun xd s3 ρ3 H3 v3 e3 rs3 r3 h4 => ?_⟩⟩
    obtain ⟨rr, er, h4⟩ := post_o h4
    unfold getR at er
    split at er
    · rename_i kvs3 kk xz q1 q2 q3
      cases er
      cases q3
      obtain ⟨p3, vs3, ev, hp3, g1, g2⟩ := dctAt_ok rs3 (RR.mono e3 (RR.mono e2 r1)) q1
      cases ev
      have ex := keyR_ok r2 q2
      subst ex
      refine ⟨valV vs3 kk, .inl ⟨_, _, hp3, rfl, rfl⟩, ?_⟩
      obtain ⟨k1, k2⟩ := dlk_ok kk g1 g2
      cases ed : dlk kvs3 kk with
      | none =>
        rw [ed] at k2 h4
        cases ev : valV vs3 kk with
        | none => exact post_val rs3 h4 r3
        | some _ => rw [ev] at k2; cases k2
      | some d0 =>
        obtain ⟨v0, e5, e6⟩ := k1 d0 ed
        rw [ed] at h4
        rw [e5]
        exact post_val rs3 h4 e6
    · cases er
  · cases h
/-! subscripts -/
theorem s_ix {a b : Ex} (ha : SE T cf k N a) (hb : SE T cf k N b) : SE T cf k N (.ix a b) := by
  intro X sc W e g h
  simp only [ck] at h
  split at h
  · rename_i x y p
    obtain ⟨h1, h2⟩ := and2 h
    have sa := ha X sc W x g h1
    have sb := hb X sc W y g h2
    refine snd_mkR rfl rfl (pe_wk (pe_ix (ix_any (W := W0) (by have := g.hu; omega)) sa.r sb.r (ok_ix sb.ok)) fun σ H Q ⟨ρ, l, s, rs, rl, hp⟩ => ?_)
    exact ⟨ρ, l, s, rs, rl, Post.bind bkRR hp fun x s1 ρ1 H1 v1 e1 rs1 r1 h1 => ⟨ρ1, l, s1, rs1, rl.mono e1, Post.bind bkRR h1 fun y s2 ρ2 H2 v2 e2 rs2 r2 h2 => ⟨H, H1, ρ2, s2, x, y, rs2, RR.mono e2 r1, r2, post_w h2⟩⟩⟩
  · cases h
abbrev rOI : Hp → List Addr → Hp → Option Int → Option Int → Prop := fun _ _ _ a b => a = b
def tOi (K : Kw) (W : L2.St → Wx) (m : M (Option Int)) : TO := fun σ H Q => ∃ ρ l s, RS K ρ H s ∧ RL K ρ H σ l ∧ Post K (W σ) rOI ρ H Q (m l s)
theorem po_wk {X : Cx} {e : Option Expr} {t t' : TO} (h : PO X e t) (w : ∀ σ H Q, t' σ H Q → t σ H Q) : PO X e t' := ⟨fun pins s σ H Q I q => h.run pins s σ H Q I (w σ H Q q)⟩
theorem po_any {X : Cx} {W : WX} {sc : Scope} {t : Ex} (g : Good T cf k N sc X W) (ht : SE T cf k N t) {l : Option Expr} (h : (match l with | none => t.isNil | some y => !t.isNil && (ck T N t).e sc y) = true) : PO X l (tOi X.kw (wS X.mg W) (optI t.isNil (den cf T.gc t).r)) := by
  cases l with
  | none =>
    have h : t.isNil = true := h
    refine po_wk po_none fun σ H Q ⟨ρ, l, s, rs, rl, hp⟩ => ?_
    unfold optI at hp
    rw [if_pos h] at hp
    exact hp ρ H none .refl rs rfl
  | some y =>
    obtain ⟨h1, h2⟩ := and2 (show (!t.isNil && (ck T N t).e sc y) = true from h)
    have sa := ht X sc W y g h2
    refine po_wk (po_some sa.r) fun σ H Q ⟨ρ, l, s, rs, rl, hp⟩ => ?_
    unfold optI at hp
    rw [if_neg (by simpa using h1)] at hp
    refine ⟨ρ, l, s, rs, rl, Post.bind (fun _ _ _ _ _ _ _ _ _ q => q) hp fun x s1 ρ1 H1 v1 e1 rs1 r1 h1 => ?_⟩
    split at h1
    · exact ⟨_, rr_int r1, h1 ρ1 H1 _ .refl rs1 rfl⟩
    · exact h1.elim
theorem s_sl {a lo hi : Ex} (ha : SE T cf k N a) (hl : SE T cf k N lo) (hh : SE T cf k N hi) : SE T cf k N (.sl a lo hi) := by
  intro X sc W e g h
  simp only [ck] at h
  split at h
  · rename_i x l u p1 p2
    obtain ⟨h, h3⟩ := and2 h
    obtain ⟨h1, h2⟩ := and2 h
    have sa := ha X sc W x g h1
    refine snd_mkR rfl rfl (pe_wk (pe_slice (sl_any (W := W0)) sa.r (po_any g hl h2) (po_any g hh h3)) fun σ H Q ⟨ρ, l, s, rs, rl, hp⟩ => ?_)
    refine ⟨ρ, l, s, rs, rl, Post.bind bkRR hp fun x s1 ρ1 H1 v1 e1 rs1 r1 h1 => ⟨ρ1, l, s1, rs1, rl.mono e1, Post.bind bkRR h1 fun i s2 ρ2 H2 i' e2 rs2 r2 h2 => ⟨ρ2, l, s2, rs2, (rl.mono e1).mono e2, Post.bind bkRR h2 fun j s3 ρ3 H3 j' e3 rs3 r3 h3 => ?_⟩⟩⟩
    cases r2
    cases r3
    exact ⟨H, ρ3, s3, x, rs3, RR.mono e3 (RR.mono e2 r1), post_w h3⟩
  · cases h
/-! walks -/
theorem i1_boot (f : I1) : bootBuiltins (f.name : Str) = some (.type f.name) := by cases f <;> decide +kernel
theorem it_rev {K : Kw} {ρ : List Addr} {H : Hp} {p : Addr} {xs : List D} {src : Option (Nat × List D)}
    (h : ∀ (ρ1 : List Addr) (H1 : Hp) (s1 : Sto), Ext K ρ H ρ1 H1 → RS K ρ1 H1 s1 → srcOk src s1 → ∃ vs, SqL K H1 p vs ∧ RVs K ρ1 H1 xs vs) : ItOk K ρ H ⟨xs.reverse, src⟩ (Itv K p xs.length) := by
  intro ρ1 H1 s1 e rs so i
  obtain ⟨vs, h1, h2⟩ := h ρ1 H1 s1 e rs so
  have hl := h2.length
  refine ⟨fun d hd => ?_, fun hi => ?_⟩
  · have hd : xs.reverse[i]? = some d := hd
    have hlt : i < xs.length := by
      have := (List.getElem?_eq_some_iff.mp hd).1
      rwa [List.length_reverse] at this
    rw [List.getElem?_reverse hlt] at hd
    obtain ⟨v, h3, h4⟩ := h2.get hd
    refine ⟨⟨hlt, vs, v, h1, h3⟩, fun x H2 hyx => ?_⟩
    obtain ⟨hy, hx⟩ := hyx
    subst hy
    have := hx vs h1
    rw [h3] at this
    cases this
    exact ⟨.refl, rs, h4⟩
  · have hi : xs.reverse.length = i := hi
    rw [List.length_reverse] at hi
    exact Nat.le_of_eq hi
theorem it_revT {K : Kw} {ρ : List Addr} {H : Hp} {p : Addr} {xs : List D} {vs : List V} {src : Option (Nat × List D)} (h1 : SqT K H p vs) (h2 : RVs K ρ H xs vs) : ItOk K ρ H ⟨xs.reverse, src⟩ (ItvT K p xs.length) := by
  intro ρ1 H1 s1 e rs so i
  have h1 := e.tup _ _ h1
  have h2 := RVs.mono e _ _ h2
  refine ⟨fun d hd => ?_, fun hi => ?_⟩
  · have hd : xs.reverse[i]? = some d := hd
    have hlt : i < xs.length := by
      have := (List.getElem?_eq_some_iff.mp hd).1
      rwa [List.length_reverse] at this
    rw [List.getElem?_reverse hlt] at hd
    obtain ⟨v, h3, h4⟩ := h2.get hd
    refine ⟨⟨hlt, vs, v, h1, h3⟩, fun x H2 hyx => ?_⟩
    obtain ⟨hy, hx⟩ := hyx
    subst hy
    have := hx vs h1
    rw [h3] at this
    cases this
    exact ⟨.refl, rs, h4⟩
  · have hi : xs.reverse.length = i := hi
    rw [List.length_reverse] at hi
    exact Nat.le_of_eq hi
theorem numbered_get : ∀ (xs : List D) (k i : Nat), (numbered k xs)[i]? = (xs[i]?).map fun x => D.tup [.int ((k + i : Nat) : Int), x]
  | [], k, i => by simp [numbered]
  | x :: r, k, 0 => by simp [numbered]
  | x :: r, k, i + 1 => by
    show (numbered (k + 1) r)[i]? = _
    rw [numbered_get r (k + 1) i, show k + 1 + i = k + (i + 1) by omega]
    rfl
theorem numbered_length : ∀ (xs : List D) (k : Nat), (numbered k xs).length = xs.length
  | [], k => rfl
  | x :: r, k => by
    show (numbered (k + 1) r).length + 1 = r.length + 1
    rw [numbered_length]
theorem it_enum {K : Kw} {ρ : List Addr} {H : Hp} {p : Addr} {xs : List D} {src : Option (Nat × List D)}
    (h : ∀ (ρ1 : List Addr) (H1 : Hp) (s1 : Sto), Ext K ρ H ρ1 H1 → RS K ρ1 H1 s1 → srcOk src s1 → ∃ vs, SqL K H1 p vs ∧ RVs K ρ1 H1 xs vs) : ItOk K ρ H ⟨numbered 0 xs, src⟩ (Ite K p) := by
  intro ρ1 H1 s1 e rs so i
  obtain ⟨vs, h1, h2⟩ := h ρ1 H1 s1 e rs so
  have hl := h2.length
  refine ⟨fun d hd => ?_, fun hi => ?_⟩
  · have hd : (numbered 0 xs)[i]? = some d := hd
    rw [numbered_get] at hd
    obtain ⟨z, hz, rfl⟩ := Option.map_eq_some_iff.mp hd
    obtain ⟨v, h3, h4⟩ := h2.get hz
    refine ⟨⟨vs, v, h1, h3⟩, fun x H2 ⟨t, y, hx, ht, hy, hv⟩ => ?_⟩
    subst hx
    subst hy
    have := hv vs h1
    rw [h3] at this
    cases this
    refine ⟨Ext.laid ht, rs.laid ht, rv_tup.mpr ⟨t, _, rfl, SqT.of upd_same, ?_⟩⟩
    refine .cons_ (rv_int.mpr ?_) (.one (RV.mono (Ext.laid ht) _ _ h4))
    rw [Nat.zero_add]
  · have hi : (numbered 0 xs).length = i := hi
    rw [numbered_length] at hi
    exact ⟨vs, h1, by rw [hl]; exact Nat.le_of_eq hi⟩
theorem it_enumT {K : Kw} {ρ : List Addr} {H : Hp} {p : Addr} {xs : List D} {src : Option (Nat × List D)} {vs0 : List V} (k1 : SqT K H p vs0) (k2 : RVs K ρ H xs vs0) : ItOk K ρ H ⟨numbered 0 xs, src⟩ (IteT K p) := by
  intro ρ1 H1 s1 e rs so i
  have h1 := e.tup _ _ k1
  have h2 := RVs.mono e _ _ k2
  have hl := h2.length
  refine ⟨fun d hd => ?_, fun hi => ?_⟩
  · have hd : (numbered 0 xs)[i]? = some d := hd
    rw [numbered_get] at hd
    obtain ⟨z, hz, rfl⟩ := Option.map_eq_some_iff.mp hd
    obtain ⟨v, h3, h4⟩ := h2.get hz
    refine ⟨⟨vs0, v, h1, h3⟩, fun x H2 ⟨t, y, hx, ht, hy, hv⟩ => ?_⟩
    subst hx
    subst hy
    have := hv vs0 h1
    rw [h3] at this
    cases this
    refine ⟨Ext.laid ht, rs.laid ht, rv_tup.mpr ⟨t, _, rfl, SqT.of upd_same, ?_⟩⟩
    refine .cons_ (rv_int.mpr ?_) (.one (RV.mono (Ext.laid ht) _ _ h4))
    rw [Nat.zero_add]
  · have hi : (numbered 0 xs).length = i := hi
    rw [numbered_length] at hi
    exact ⟨vs0, h1, by rw [hl]; exact hi⟩
theorem i1_range {s : Sto} {a : RD} {its : Nv.Its} (h : i1R .range s a = some its) : ∃ j, a = .d (.int j) ∧ small62 j ∧ its = ⟨upTo 0 j.toNat, none⟩ := by
  unfold i1R at h
  simp only at h
  split at h
  · split at h
    · rename_i j c
      cases h
      exact ⟨_, rfl, c, rfl⟩
    · cases h
  · cases h
theorem i2_range {s : Sto} {a b : RD} {its : Nv.Its} (h : i2R .range s a b = some its) : ∃ i j, a = .d (.int i) ∧ b = .d (.int j) ∧ small62 i ∧ small62 j ∧ its = ⟨upTo i (j - i).toNat, none⟩ := by
  unfold i2R at h
  simp only at h
  split at h
  · split at h
    · rename_i c
      cases h
      exact ⟨_, _, rfl, rfl, c.1, c.2, rfl⟩
    · cases h
  · cases h
theorem s_i1 {f : I1} {a : Ex} (ha : SE T cf k N a) : SE T cf k N (.i1 f a) := by
  intro X sc W e g h
  simp only [ck] at h
  split at h
  · rename_i x px y p
    obtain ⟨h, h4⟩ := and2 h
    obtain ⟨h, h3⟩ := and2 h
    obtain ⟨h1, h2⟩ := and2 h
    cases of_decide_eq_true h1
    obtain ⟨g1, g2, g3⟩ := g.gl h2
    have sa := ha X sc W y g h4
    have hst := ok_star sa.ok [] X.env
    refine snd_mkI rfl (fun _ _ _ q => by cases q) fun tg htg => ?_
    cases f with
    | range =>
      refine pi_wk (pi_range1 g1 (g.blt _ h3) (pa_r sa.ok sa.r) hst) fun σ H R ⟨ρ, l, s, rs, rl, hp⟩ => ?_
      refine ⟨ρ, l, s, rs, rl, Post.bind bkIt hp fun x s1 ρ1 H1 v1 e1 rs1 r1 h1 => ?_⟩
      cases e2 : i1R .range s1 x with
      | none => rw [e2] at h1; exact h1.elim
      | some its =>
        rw [e2] at h1
        obtain ⟨j, rfl, c, rfl⟩ := i1_range e2
        exact ⟨j, by rw [rr_int r1], c.1, c.2, h1 ρ1 H1 _ .refl rs1 it_range⟩
    | reversed =>
      refine pi_wk (pi_revA g1 (g.blt _ h3) sa.r hst) fun σ H R ⟨ρ, l, s, rs, rl, hp⟩ => ?_
      refine ⟨ρ, l, s, rs, rl, Post.bind bkIt hp fun x s1 ρ1 H1 v1 e1 rs1 r1 h1 => ?_⟩
      cases e2 : i1R .reversed s1 x with
      | none => rw [e2] at h1; exact h1.elim
      | some its =>
        rw [e2] at h1
        obtain ⟨xs, e3, e4⟩ := Option.map_eq_some_iff.mp (show (asQ s1 x).map (fun xs => (⟨xs.reverse, srcR s1 x⟩ : Nv.Its)) = some its from e2)
        cases e4
        have lst : asL s1 x = some xs → ∃ (a : Addr) (vs : List V), v1 = .ref a ∧ ((SqL X.K H1 a vs ∧ R (Itv X.K a vs.length) H1) ∨ (SqT X.K H1 a vs ∧ R (ItvT X.K a vs.length) H1)) := fun q => by
          obtain ⟨p, vs, hv, k1, k2⟩ := asL_ok rs1 r1 q
          obtain ⟨p', hv', k3⟩ := src_list rs1 r1 q
          rw [hv] at hv'
          cases hv'
          exact ⟨p, vs, hv, .inl ⟨k1, by rw [k2.length]; exact h1 ρ1 H1 _ .refl rs1 (it_rev k3)⟩⟩
        cases x with
        | l ys => exact lst e3
        | m _ => cases e3
        | d z =>
          cases z with
          | tup ys =>
            cases e3
            obtain ⟨p, vs, hv, k1, k2⟩ := rr_tup r1
            exact ⟨p, vs, hv, .inr ⟨k1, by rw [k2.length]; exact h1 ρ1 H1 _ .refl rs1 (it_revT k1 k2)⟩⟩
          | lf ys => exact lst e3
          | obj i => exact lst e3
          | _ => cases e3
    | enumerate =>
      cases tg with
      | Tuple es kk tp =>
        refine pi_wk (pi_enumX g1 (g.blt _ h3) (pa_r sa.ok sa.r) hst) fun σ H R ⟨ρ, l, s, rs, rl, hp⟩ => ?_
        refine ⟨ρ, l, s, rs, rl, Post.bind bkIt hp fun x s1 ρ1 H1 v1 e1 rs1 r1 h1 => ?_⟩
        cases e2 : i1R .enumerate s1 x with
        | none => rw [e2] at h1; exact h1.elim
        | some its =>
          rw [e2] at h1
          have lst : (asL s1 x).map (fun xs => (⟨numbered 0 xs, srcR s1 x⟩ : Nv.Its)) = some its → ∃ (a : Addr) (xs : List V), [v1] = [V.ref a] ∧ ((SqL X.K H1 a xs ∧ R (Ite X.K a) H1) ∨ (SqT X.K H1 a xs ∧ R (IteT X.K a) H1)) := fun q => by
            obtain ⟨xs, e3, e4⟩ := Option.map_eq_some_iff.mp q
            cases e4
            obtain ⟨p, vs, hv, k1, k2⟩ := asL_ok rs1 r1 e3
            obtain ⟨p', hv', k3⟩ := src_list rs1 r1 e3
            rw [hv] at hv'
            cases hv'
            exact ⟨p, vs, by rw [hv], .inl ⟨k1, h1 ρ1 H1 _ .refl rs1 (it_enum k3)⟩⟩
          cases x with
          | l ys => exact lst e2
          | m _ => exact lst e2
          | d z =>
            cases z with
            | tup ys =>
              cases e2
              obtain ⟨p, vs, hv, k1, k2⟩ := rr_tup r1
              exact ⟨p, vs, by rw [hv], .inr ⟨k1, h1 ρ1 H1 _ .refl rs1 (it_enumT k1 k2)⟩⟩
            | _ => exact lst e2
      | _ => cases htg
  · cases h

theorem i2_boot (f : I2) : bootBuiltins (f.name : Str) = some (.type f.name) := by cases f <;> decide +kernel
theorem zipD_get : ∀ (xs ys : List D) (i : Nat) (d : D), (zipD xs ys)[i]? = some d → ∃ x y, xs[i]? = some x ∧ ys[i]? = some y ∧ d = .tup [x, y]
  | [], _, _, _, h => by simp [zipD] at h
  | _ :: _, [], _, _, h => by simp [zipD] at h
  | x :: r, y :: q, 0, d, h => by
    simp [zipD] at h
    exact ⟨x, y, rfl, rfl, h.symm⟩
  | x :: r, y :: q, i + 1, d, h => by
    obtain ⟨a, b, h1, h2, h3⟩ := zipD_get r q i d (by simpa [zipD] using h)
    exact ⟨a, b, by simpa using h1, by simpa using h2, h3⟩
theorem zipD_length : ∀ (xs ys : List D), (zipD xs ys).length = min xs.length ys.length
  | [], _ => by simp [zipD]
  | _ :: _, [] => by simp [zipD]
  | x :: r, y :: q => by
    simp only [zipD, List.length_cons, zipD_length r q]
    omega
/-- a list that no one else may change -/
theorem asL_keep {K : Kw} {ρ : List Addr} {H H0 : Hp} {s : Sto} {a : RD} {x : V} {xs : List D} (r : RR K H0 ρ H a x) (h : asL s a = some xs) (hs : srcR s a = none) :
    ∃ p vs, x = .ref p ∧ SqL K H p vs ∧ RVs K ρ H xs vs ∧ ∀ ρ1 H1, Ext K ρ H ρ1 H1 → SqL K H1 p vs := by
  unfold asL at h
  split at h
  · cases h
    obtain ⟨q, us, e1, e2, e3, e4, _⟩ := r
    exact ⟨q, us, e1, SqL.of e2, e3, fun ρ1 H1 e => SqL.of (e.oth _ _ e2 e4)⟩
  · cases h
    unfold RR RV at r
    obtain ⟨q, us, e1, e2, e3⟩ := r
    exact ⟨q, us, e1, e2.sql, e3, fun ρ1 H1 e => (e.fzl _ _ e2).sql⟩
  · have hs : (lstAt s _).map (fun xs => (_, xs)) = none := hs
    rw [h] at hs
    cases hs
  · cases h
theorem asQ_keep {K : Kw} {ρ : List Addr} {H H0 : Hp} {s : Sto} {a : RD} {x : V} {xs : List D} (r : RR K H0 ρ H a x) (h : asQ s a = some xs) (hs : srcR s a = none) :
    ∃ t p vs, x = .ref p ∧ SqX K t H p vs ∧ RVs K ρ H xs vs ∧ ∀ ρ1 H1, Ext K ρ H ρ1 H1 → SqX K t H1 p vs := by
  have low : asL s a = some xs → ∃ t p vs, x = .ref p ∧ SqX K t H p vs ∧ RVs K ρ H xs vs ∧ ∀ ρ1 H1, Ext K ρ H ρ1 H1 → SqX K t H1 p vs := fun q => by
    obtain ⟨p, vs, e1, e2, e3, e4⟩ := asL_keep r q hs
    exact ⟨false, p, vs, e1, e2, e3, e4⟩
  unfold asQ at h
  split at h
  · exact low h
  · exact low h
  · exact low h
  · cases h
    obtain ⟨p, vs, rfl, k1, k2⟩ := rr_tup r
    exact ⟨true, p, vs, rfl, k1, k2, fun ρ1 H1 e => e.tup _ _ k1⟩
  · cases h
/-- what stays of a sequence that a value or a fresh result reads -/
theorem asQ_src {K : Kw} {ρ : List Addr} {H H0 : Hp} {s : Sto} {a : RD} {x : V} {xs : List D} (rs : RS K ρ H s) (r : RR K H0 ρ H a x) (h : asQ s a = some xs) :
    ∃ t p vs, x = .ref p ∧ SqX K t H p vs ∧ ∀ (ρ1 : List Addr) (H1 : Hp) (s1 : Sto), Ext K ρ H ρ1 H1 → RS K ρ1 H1 s1 → srcOk (srcR s a) s1 → ∃ vs, SqX K t H1 p vs ∧ RVs K ρ1 H1 xs vs := by
  have low : asL s a = some xs → ∃ t p vs, x = .ref p ∧ SqX K t H p vs ∧ ∀ (ρ1 : List Addr) (H1 : Hp) (s1 : Sto), Ext K ρ H ρ1 H1 → RS K ρ1 H1 s1 → srcOk (srcR s a) s1 → ∃ vs, SqX K t H1 p vs ∧ RVs K ρ1 H1 xs vs := fun q => by
    obtain ⟨p, e1, e2⟩ := src_list rs r q
    obtain ⟨p', vs, e3, e4, _⟩ := asL_ok rs r q
    rw [e1] at e3
    cases e3
    exact ⟨false, p, vs, e1, e4, e2⟩
  unfold asQ at h
  split at h
  · exact low h
  · exact low h
  · exact low h
  · cases h
    obtain ⟨p, vs, rfl, k1, k2⟩ := rr_tup r
    exact ⟨true, p, vs, rfl, k1, fun ρ1 H1 s1 e _ _ => ⟨vs, e.tup _ _ k1, RVs.mono e _ _ k2⟩⟩
  · cases h
theorem it_zipX {K : Kw} {ρ : List Addr} {H : Hp} {t1 t2 : Bool} {a b : Addr} {xs ys : List D} {src : Option (Nat × List D)}
    (ha : ∀ (ρ1 : List Addr) (H1 : Hp) (s1 : Sto), Ext K ρ H ρ1 H1 → RS K ρ1 H1 s1 → srcOk src s1 → ∃ vs, SqX K t1 H1 a vs ∧ RVs K ρ1 H1 xs vs) (hb : ∀ (ρ1 : List Addr) (H1 : Hp) (s1 : Sto), Ext K ρ H ρ1 H1 → RS K ρ1 H1 s1 → srcOk src s1 → ∃ us, SqX K t2 H1 b us ∧ RVs K ρ1 H1 ys us) : ItOk K ρ H ⟨zipD xs ys, src⟩ (ItzX K t1 t2 a b) := by
  intro ρ1 H1 s1 e rs so i
  obtain ⟨vs, a1, a2⟩ := ha ρ1 H1 s1 e rs so
  obtain ⟨us, b1, b2⟩ := hb ρ1 H1 s1 e rs so
  refine ⟨fun d hd => ?_, fun hi => ?_⟩
  · obtain ⟨x, y, h1, h2, rfl⟩ := zipD_get xs ys i d hd
    obtain ⟨v, h3, h4⟩ := a2.get h1
    obtain ⟨u, h5, h6⟩ := b2.get h2
    refine ⟨⟨vs, us, v, u, a1, b1, h3, h5⟩, fun z H2 hz => ?_⟩
    obtain ⟨t, v', u', hx, ht, hy, hv, hu⟩ := hz
    subst hx
    subst hy
    have q1 := hv vs a1
    have q2 := hu us b1
    rw [h3] at q1
    rw [h5] at q2
    cases q1
    cases q2
    refine ⟨Ext.laid ht, rs.laid ht, rv_tup.mpr ⟨t, _, rfl, SqT.of upd_same, ?_⟩⟩
    exact .cons_ (RV.mono (Ext.laid ht) _ _ h4) (.one (RV.mono (Ext.laid ht) _ _ h6))
  · have hi : (zipD xs ys).length = i := hi
    rw [zipD_length] at hi
    have l1 := a2.length
    have l2 := b2.length
    exact ⟨vs, us, a1, b1, by omega, by omega, by omega⟩
theorem i2_zip {s : Sto} {a b : RD} {its : Nv.Its} (h : i2R .zip s a b = some its) : ∃ xs ys, asQ s a = some xs ∧ asQ s b = some ys ∧ (∀ s1, srcOk its.src s1 → srcOk (srcR s a) s1 ∧ srcOk (srcR s b) s1) ∧ its.ds = zipD xs ys := by
  unfold i2R at h
  simp only at h
  split at h
  · rename_i xs ys e1 e2 e3
    cases h
    exact ⟨xs, ys, e1, e2, fun s1 so => ⟨by rw [e3]; trivial, so⟩, rfl⟩
  · rename_i xs ys q e1 e2 e3 e4
    cases h
    exact ⟨xs, ys, e1, e2, fun s1 so => ⟨by rw [e3]; exact so, by rw [e4]; trivial⟩, rfl⟩
  · cases h
theorem s_i2 {f : I2} {a b : Ex} (ha : SE T cf k N a) (hb : SE T cf k N b) : SE T cf k N (.i2 f a b) := by
  intro X sc W e g h
  simp only [ck] at h
  split at h
  · rename_i x px y z p
    obtain ⟨h, h5⟩ := and2 h
    obtain ⟨h, h4⟩ := and2 h
    obtain ⟨h, h3⟩ := and2 h
    obtain ⟨h1, h2⟩ := and2 h
    cases of_decide_eq_true h1
    obtain ⟨g1, g2, g3⟩ := g.gl h2
    have sa := ha X sc W y g h4
    have sb := hb X sc W z g h5
    have st1 := ok_star sa.ok [z] X.env
    have st2 := ok_star sb.ok [] X.env
    have pa := pa_cons sa.r (pa_r sb.ok sb.r) st1
    refine snd_mkI rfl (fun _ _ _ q => by cases q) fun tg htg => ?_
    cases f with
    | range =>
      refine pi_wk (pi_range2 g1 (g.blt _ h3) pa (by rw [st1, st2]; rfl) st2) fun σ H R ⟨ρ, l, s, rs, rl, hp⟩ => ?_
      refine ⟨ρ, l, s, rs, rl, Post.bind bkIt hp fun x s1 ρ1 H1 v1 e1 rs1 r1 h1 => ⟨ρ1, l, s1, rs1, rl.mono e1, Post.bind bkIt h1 fun y s2 ρ2 H2 v2 e2 rs2 r2 h2 => ?_⟩⟩
      cases e3 : i2R .range s2 x y with
      | none => rw [e3] at h2; exact h2.elim
      | some its =>
        rw [e3] at h2
        obtain ⟨i, j, rfl, rfl, c1, c2, rfl⟩ := i2_range e3
        exact ⟨i, j, by rw [rr_int (RR.mono e2 r1), rr_int r2], ⟨c1.1, c1.2, c2.1, c2.2⟩, h2 ρ2 H2 _ .refl rs2 it_range⟩
    | zip =>
      cases tg with
      | Tuple es kk tp =>
        refine pi_wk (pi_zipX g1 (g.blt _ h3) pa st1 (by rw [st2]; rfl)) fun σ H R ⟨ρ, l, s, rs, rl, hp⟩ => ?_
        refine ⟨ρ, l, s, rs, rl, Post.bind bkIt hp fun x s1 ρ1 H1 v1 e1 rs1 r1 h1 => ⟨ρ1, l, s1, rs1, rl.mono e1, Post.bind bkIt h1 fun y s2 ρ2 H2 v2 e2 rs2 r2 h2 => ?_⟩⟩
        have r1 := RR.mono e2 r1
        cases e3 : i2R .zip s2 x y with
        | none => rw [e3] at h2; exact h2.elim
        | some its =>
          rw [e3] at h2
          obtain ⟨xs, ys, q1, q2, q3, q4⟩ := i2_zip e3
          obtain ⟨ds, src⟩ := its
          cases q4
          obtain ⟨t1, p1, vs, rfl, k1, k5⟩ := asQ_src rs2 r1 q1
          obtain ⟨t2, p2, us, rfl, k3, k6⟩ := asQ_src rs2 r2 q2
          exact ⟨p1, p2, t1, t2, vs, us, rfl, k1, k3, h2 ρ2 H2 _ .refl rs2 (it_zipX (fun ρ1 H1 s1 e rs so => k5 ρ1 H1 s1 e rs (q3 s1 so).1) fun ρ1 H1 s1 e rs so => k6 ρ1 H1 s1 e rs (q3 s1 so).2)⟩
      | _ => cases htg
  · cases h
end
end Nv

set_option Elab.async false
set_option linter.all false
set_option maxRecDepth 100000
set_option autoImplicit false
set_option maxHeartbeats 4000000
/-! NvFs: sorted(set(xs)), len(set(xs)). -/
namespace Nv
open PySem PySem.Spec PyProof.Rows L2

/-! ### lists without doubles -/
section
variable {α : Type} [DecidableEq α]
theorem mem_uniq {x : α} : ∀ {l : List α}, x ∈ uniq l ↔ x ∈ l
  | [] => Iff.rfl
  | y :: l => by
    unfold uniq
    split
    · rename_i h
      rw [mem_uniq, List.mem_cons]
      exact ⟨.inr, fun q => q.elim (fun e => by rw [e]; exact h) id⟩
    · rw [List.mem_cons, List.mem_cons, mem_uniq]
theorem uniq_nodup : ∀ l : List α, (uniq l).Nodup
  | [] => List.nodup_nil
  | y :: l => by
    unfold uniq
    split
    · exact uniq_nodup l
    · rename_i h
      exact List.nodup_cons.mpr ⟨fun q => h (mem_uniq.mp q), uniq_nodup l⟩
theorem uniq_len : ∀ l : List α, (uniq l).length ≤ l.length
  | [] => Nat.le_refl _
  | y :: l => by
    have := uniq_len l
    unfold uniq
    split
    · rw [List.length_cons]; omega
    · rw [List.length_cons, List.length_cons]; omega
theorem uniq_id : ∀ {l : List α}, l.Nodup → uniq l = l
  | [], _ => rfl
  | y :: l, h => by
    obtain ⟨h1, h2⟩ := List.nodup_cons.mp h
    unfold uniq
    rw [if_neg h1, uniq_id h2]
theorem From.uniq_perm {ks L : List (Value × α)} (g : From ks ks.length L) : (L.map (·.2)).Perm (uniq (ks.map (·.2))) := by
  refine (List.perm_ext_iff_of_nodup g.nd (uniq_nodup _)).mpr fun x => ?_
  rw [mem_uniq]
  constructor
  · intro h
    obtain ⟨p, hp, e⟩ := List.mem_map.mp h
    exact List.mem_map.mpr ⟨p, g.sub p hp, e⟩
  · intro h
    obtain ⟨p, hp, e⟩ := List.mem_map.mp h
    rw [← e]
    exact g.all p (by rw [List.take_length]; exact hp)
end
theorem sort_perm {l m : List Str} (p : l.Perm m) : l.mergeSort leS = m.mergeSort leS := by
  refine List.Perm.eq_of_pairwise (le := fun a b => leS a b = true) (fun a b _ _ p q => ?_) (pw_sort _) (pw_sort _) ((List.mergeSort_perm _ _).trans (p.trans (List.mergeSort_perm _ _).symm))
  have := List.le_antisymm (of_decide_eq_true p) (of_decide_eq_true q)
  cases a; cases b
  simpa using this

/-! ### the sets as things of the heap -/
def TSO (P : Program) (w : World) (a : Addr) (L : List (Value × Str)) : HO := .ext fun h => TSt P w h a L
def NSO (w : World) (a : Addr) (L : List (Value × NestedKey)) : HO := .ext fun h => NSt w (NestedKey.hash w) h a L
theorem tso_ok {P : Program} {w : World} {H : Hp} {h : Heap} {a : Addr} {L : List (Value × Str)} (S : TSt P w h a L) : ObjOk P w H h a (TSO P w a L) := by
  obtain ⟨D, h1, h2⟩ := id S
  exact ⟨S, ⟨_, h1⟩, fun x y p k => addsS.stay p k⟩
theorem nso_ok {P : Program} {w : World} {H : Hp} {h : Heap} {a : Addr} {L : List (Value × NestedKey)} (S : NSt w (NestedKey.hash w) h a L) : ObjOk P w H h a (NSO w a L) := by
  obtain ⟨es, ep, t, R⟩ := id S
  obtain ⟨o, ho, _⟩ := R.ob
  exact ⟨S, ⟨o, ho⟩, fun x y p k => (addsT (P := P) sideN).stay p k⟩
section
variable {X : Cx}
/-- the items as pairs -/
theorem pairs {κ : Type} {Is : Heap → κ → Value → Prop} {h : Heap} : ∀ {us : List Value} {ks : List κ}, PySem.W.EachIs (fun v k => Is h k v) us ks → ∃ ps : List (Value × κ), us = ps.map (·.1) ∧ ps.map (·.2) = ks ∧ ∀ p ∈ ps, Is h p.2 p.1
  | _, _, .nil => ⟨[], rfl, rfl, fun p hp => by cases hp⟩
  | _, _, .cons (a := v) (b := k) r t => by
    obtain ⟨ps, h1, h2, h3⟩ := pairs t
    refine ⟨(v, k) :: ps, by rw [h1]; rfl, by rw [List.map_cons, h2], fun p hp => ?_⟩
    rcases List.mem_cons.mp hp with e | z
    · rw [e]; exact r
    · exact h3 p z
/-- set(xs) -/
def rSetX (X : Cx) : List V → Hp → VK → Prop := fun xs H Q => ∃ (l : Addr) (vs : List V), xs = [.ref l] ∧ SqL X.K H l vs ∧ vs.length < 64 ∧
  ((∃ ss : List Str, vs = ss.map V.str ∧ ∀ a L, H a = none → L.length < 64 → (L.map (·.2)).Nodup → (L.map (·.2)).Perm (uniq ss) → Q (.ref a) (upd H a (TSO X.prog X.w a L))) ∨
   ∃ ks : List NestedKey, (∀ (pins : List (Addr × Obj)) (σ : L2.St) (s : Shared) (us : List Value), Inv X pins σ H s → Vals vs us → PySem.W.EachIs (fun v k => IsN s.heap k v) us ks) ∧
     ∀ a L, H a = none → L.length < 64 → (L.map (·.2)).Perm (uniq ks) → Q (.ref a) (upd H a (NSO X.w a L)))
theorem each_strs {h : Heap} : ∀ {ss : List Str} {us : List Value}, Vals (ss.map V.str) us → PySem.W.EachIs (fun v k => IsS h k v) us ss
  | [], _, .nil => .nil
  | x :: ss, _, .cons r t => .cons r (each_strs t)
theorem cr_setX (hc : X.calm = true) (hu : X.A.units + 63 < cLine) : CallR X (.type "set") (rSetX X) := by
  intro pins s σ H xs us Q I r h
  obtain ⟨l, vs, rfl, hl, few, h⟩ := h
  rw [Vals.ref1 r]
  obtain ⟨its, rv, pl, hz⟩ := I.list hl
  have hn : H s.heap.objs.size = none := I.hok.fresh (Nat.le_refl _)
  have hlen := rv.length
  rcases h with ⟨ss, rfl, q⟩ | ⟨ks, hk, q⟩
  · obtain ⟨ps, e1, e2, e3⟩ := pairs (Is := IsS) (h := s.heap) (each_strs rv)
    have el : ps.length < 64 := by rw [← List.length_map (f := (·.2)), e2]; rwa [List.length_map] at few
    refine call_setA addsS ps (I.ok.hd hc) pl.isList (by simpa using e1) e3 el hu fun h' tk L S g k => ?_
    exact ⟨.ref s.heap.objs.size, _, I.laid (t' := tk) k (Nat.le_refl _) (tso_ok S), rfl, q _ L hn (Nat.lt_of_le_of_lt g.len el) g.nd (by rw [← e2]; exact g.uniq_perm)⟩
  · obtain ⟨ps, e1, e2, e3⟩ := pairs (hk pins σ s its I rv)
    have el : ps.length < 64 := by
      have := congrArg List.length e1
      rw [List.length_map] at this
      omega
    refine call_setA (addsT sideN) ps (I.ok.hd hc) pl.isList (by simpa using e1) e3 el hu fun h' tk L S g k => ?_
    exact ⟨.ref s.heap.objs.size, _, I.laid (t' := tk) k (Nat.le_refl _) (nso_ok S), rfl, q _ L hn (Nat.lt_of_le_of_lt g.len el) (by rw [← e2]; exact g.uniq_perm)⟩
/-- sorted(set) -/
def rSortX (X : Cx) : List V → Hp → VK → Prop := fun xs H Q => ∃ (a : Addr) (L : List (Value × Str)), xs = [.ref a] ∧ H a = some (TSO X.prog X.w a L) ∧ L.length < 64 ∧ (L.map (·.2)).Nodup ∧ ∀ p, H p = none → Q (.ref p) (upd H p (.lst (((L.map (·.2)).mergeSort leS).map V.str)))
theorem vals_each : ∀ {out : List Value} {ss : List Str}, PySem.W.EachIs (fun v b => ∃ t, v = Value.str b t) out ss → Vals (ss.map V.str) out
  | _, _, .nil => .nil
  | _, _, .cons r t => .cons r (vals_each t)
theorem cr_sortX (hc : X.calm = true) (hu : X.A.units + 63 < cLine) : CallR X (.builtin "sorted") (rSortX X) := by
  intro pins s σ H xs us Q I r h
  obtain ⟨a, L, rfl, ha, few, nd, q⟩ := h
  rw [Vals.ref1 r]
  refine sorted_setS (I.hok a _ ha).1 nd few (I.ok.hd hc) (by omega) fun s' p c out k g o hp hg e => ?_
  have hn : H p = none := I.hok.fresh hp
  have hv := vals_each e
  have hz : (((L.map (·.2)).mergeSort leS).map V.str).length ≤ sizeLine := by
    rw [List.length_map, (List.mergeSort_perm _ _).length_eq, List.length_map, sizeLine_eq]
    omega
  have J : Inv X pins σ (upd H p (.lst (((L.map (·.2)).mergeSort leS).map V.str))) { s with heap := s'.heap, gens := s'.gens, drawn := s'.drawn, toks := s'.toks } :=
    I.call (ch := []) (Un.laid k hp hn) (I.hok.laid k hp ⟨hz, out.toArray.toList, c, by simpa using hv, hg⟩) (by rw [g]; exact I.bare) (fun _ z => nomatch z)
  have es : s' = { s with heap := s'.heap, gens := s'.gens, drawn := s'.drawn, toks := s'.toks } := by
    cases s'
    cases s
    cases o
    rfl
  rw [es]
  exact ⟨.ref p, _, J, rfl, q p hn⟩
/-- len(set) -/
def rLenX (X : Cx) : List V → Hp → VK → Prop := fun xs H Q => ∃ (a : Addr) (n : Nat), xs = [.ref a] ∧ n < 64 ∧ ((∃ L, H a = some (TSO X.prog X.w a L) ∧ L.length = n) ∨ ∃ L, H a = some (NSO X.w a L) ∧ L.length = n) ∧ Q (.int n) H
theorem cr_lenX : CallR X (.builtin "len") (rLenX X) := by
  intro pins s σ H xs us Q I r h
  obtain ⟨a, n, rfl, few, h, q⟩ := h
  rw [Vals.ref1 r]
  have fin : ∀ (o : Obj) (es : Array (Int × Value)) (ep : Nat) (t : SetTable), s.heap.get? a = some o → o.ExactSet → o.data = .set es ep t → t.fits es.size = true → es.size = n →
      wpAny (model X.prog X.w) X.A (call (.builtin "len") [.ref a]) (EP X pins σ Q) X.xe s := fun o es ep t h1 h2 h3 h4 h5 => by
    refine call_len_set h1 h2 h3 h4 (by rw [h5]; omega) ⟨.int n, H, I.tok _, ⟨_, by rw [h5]⟩, q⟩
  rcases h with ⟨L, h1, h2⟩ | ⟨L, h1, h2⟩
  · obtain ⟨⟨es, ep, t⟩, g1, g2, _⟩ : TSt X.prog X.w s.heap a L := (I.hok a _ h1).1
    exact fin _ es ep t g1 ⟨rfl, rfl, rfl⟩ rfl g2.fit (by rw [← h2, ← List.length_map (f := (·.2))]; exact g2.sz)
  · obtain ⟨es, ep, t, R⟩ : NSt X.w (NestedKey.hash X.w) s.heap a L := (I.hok a _ h1).1
    obtain ⟨o, g1, g2, g3⟩ := R.ob
    exact fin o es ep t g1 g2 g3 R.fit (by rw [R.size, h2])
end
/-! ### the data as keys -/
section
variable {X : Cx} {ρ : List Addr} {H : Hp}
theorem rvs_strs {K : Kw} : ∀ ss : List Str, RVs K ρ H (ss.map D.str) (ss.map V.str)
  | [] => .nil_
  | x :: r => .cons_ (rv_str.mpr rfl) (rvs_strs r)
theorem strsOf_ok {K : Kw} : ∀ {ds : List D} {vs : List V} {ss : List Str}, RVs K ρ H ds vs → strsOf ds = some ss → vs = ss.map V.str
  | [], vs, ss, h, e => by unfold RVs at h; unfold strsOf at e; subst h; cases e; rfl
  | d :: ds, vs, ss, h, e => by
    unfold RVs at h
    obtain ⟨v, r, rfl, h2, h3⟩ := h
    cases d with
    | str b =>
      unfold strsOf at e
      obtain ⟨cs, q, rfl⟩ := Option.map_eq_some_iff.mp e
      rw [strsOf_ok h3 q, rv_str.mp h2]
      rfl
    | _ => unfold strsOf at e; cases e
variable {pins : List (Addr × Obj)} {σ : L2.St} {s : Shared}
mutual
theorem key_is (I : Inv X pins σ H s) : ∀ (d : D) (v : V) (u : Value) (k : NestedKey), RV X.kw ρ H d v → RelV v u → keyOf d = some k → NestedIs s.heap k u
  | .non, v, u, k, h, r, e => by unfold RV at h; unfold keyOf at e; cases e; subst h; cases r; exact .none
  | .bl b, v, u, k, h, r, e => by unfold RV at h; unfold keyOf at e; cases e; subst h; cases r; exact .bool rfl
  | .int i, v, u, k, h, r, e => by unfold RV at h; unfold keyOf at e; cases e; subst h; obtain ⟨t, rfl⟩ := r; exact .int i t
  | .str x, v, u, k, h, r, e => by unfold RV at h; unfold keyOf at e; cases e; subst h; obtain ⟨t, rfl⟩ := r; exact .text x t
  | .tup ds, v, u, k, h, r, e => by
    unfold RV at h
    unfold keyOf at e
    obtain ⟨ks, e1, rfl⟩ := Option.map_eq_some_iff.mp e
    obtain ⟨a, vs, rfl, h1, h2⟩ := h
    cases r
    obtain ⟨its, rv, ⟨o, ho, hc, n, hd⟩, _⟩ := I.tuple h1
    exact .tup ho hc hd (by simpa using keys_is I ds vs its ks h2 rv e1)
  | .lf _, v, u, k, h, r, e => by unfold keyOf at e; cases e
  | .ld _ _, v, u, k, h, r, e => by unfold keyOf at e; cases e
  | .obj _, v, u, k, h, r, e => by unfold keyOf at e; cases e
theorem keys_is (I : Inv X pins σ H s) : ∀ (ds : List D) (vs : List V) (us : List Value) (ks : List NestedKey), RVs X.kw ρ H ds vs → Vals vs us → keysOf ds = some ks → NestedAll s.heap ks us
  | [], vs, us, ks, h, r, e => by unfold RVs at h; unfold keysOf at e; cases e; subst h; cases r; exact .nil
  | d :: ds, vs, us, ks, h, r, e => by
    unfold RVs at h
    unfold keysOf at e
    obtain ⟨v, vr, rfl, h1, h2⟩ := h
    obtain ⟨k, e1, e2⟩ := bindo e
    obtain ⟨kr, e3, rfl⟩ := Option.map_eq_some_iff.mp e2
    cases r with
    | cons r1 r2 => exact .cons (key_is I d v _ k h1 r1 e1) (keys_is I ds vr _ kr h2 r2 e3)
end
theorem tupK_ok {k : NestedKey} (h : tupK k = true) : (∃ ks, k = .tup ks) ∧ k.depth ≤ 8 := by
  cases k with
  | tup ks => exact ⟨⟨ks, rfl⟩, of_decide_eq_true h⟩
  | _ => cases h
theorem each_n {h : Heap} : ∀ {ks : List NestedKey} {us : List Value}, NestedAll h ks us → ks.all tupK = true → PySem.W.EachIs (fun v k => IsN h k v) us ks
  | _, _, .nil, _ => .nil
  | k :: ks, u :: us, .cons r t, q => by
    rw [List.all_cons] at q
    obtain ⟨q1, q2⟩ := and2 q
    obtain ⟨⟨kk, rfl⟩, d⟩ := tupK_ok q1
    refine .cons ⟨?_, r, d⟩ (each_n t q2)
    cases r
    exact ⟨_, rfl⟩
end
section
variable {T : Tab} {cf : Nat → List D → Sto → Res RD} {k : Nat} {N : List Str}
theorem s_fs {f : FS} {a : Ex} (ha : SE T cf k N a) : SE T cf k N (.fs f a) := by
  intro X sc W e g h
  simp only [ck] at h
  split at h
  · rename_i x px z pz y pi p
    obtain ⟨h, h7⟩ := and2 h
    obtain ⟨h, h6⟩ := and2 h
    obtain ⟨h, h5⟩ := and2 h
    obtain ⟨h, h4⟩ := and2 h
    obtain ⟨h, h3⟩ := and2 h
    obtain ⟨h1, h2⟩ := and2 h
    obtain ⟨g1, g2, g3⟩ := g.gl h2
    obtain ⟨k1, k2, k3⟩ := g.gl h5
    have sa := ha X sc W y g h7
    have hu := g.hu
    have hs : bootBuiltins z = some (.type "set") := by rw [of_decide_eq_true h4]; decide +kernel
    have inner := pe_callV (p := pz) (pos := pi) (.inr ⟨_, rfl⟩) (cr_setX g.calm (by omega)) k1 (g.blt z h6) hs (pa_r sa.ok sa.r) k3 k2 (ok_star sa.ok [] X.env) rfl
    have ext : ∀ {ρ : List Addr} {H : Hp} {st : Sto} {a : Addr} {o : HO}, H a = none → RS X.kw ρ H st → Ext X.kw ρ H ρ (upd H a o) ∧ RS X.kw ρ (upd H a o) st := fun hn rs => ⟨Ext.laid hn, rs.laid hn⟩
    cases f with
    | sortset =>
      have hb : bootBuiltins x = some (.builtin "sorted") := by rw [of_decide_eq_true h1]; decide +kernel
      refine snd_mkR rfl rfl (pe_wk (pe_callV (.inl ⟨_, rfl⟩) (cr_sortX g.calm (by omega)) g1 (g.blt x h3) hb (pa_cons inner pa_nil rfl) g3 g2 rfl rfl) fun σ H Q ⟨ρ, l, s, rs, rl, hp⟩ => ?_)
      refine ⟨ρ, l, s, rs, rl, Post.bind bkRR hp fun d s1 ρ1 H1 v1 e1 rs1 r1 hq => ?_⟩
      obtain ⟨o, eo, hq⟩ := post_o hq
      unfold fsR at eo
      obtain ⟨ds, e2, e3⟩ := bindo eo
      split at e3
      · rename_i few
        obtain ⟨ss, e4, rfl⟩ := Option.map_eq_some_iff.mp e3
        obtain ⟨pl, vs, rfl, q1, q2⟩ := asL_ok rs1 r1 e2
        refine ⟨pl, vs, rfl, q1, by rw [q2.length]; exact few, .inl ⟨ss, strsOf_ok q2 e4, fun b L hn ll nd pm => ?_⟩⟩
        obtain ⟨x1, x2⟩ := ext (st := s1) (o := TSO X.prog X.w b L) hn rs1
        refine ⟨b, L, rfl, upd_same, ll, nd, fun p2 hn2 => ?_⟩
        rw [sort_perm pm]
        exact post_laid x2 (rvs_strs _) (Post.mono bkRR x1 hq) hn2
      · cases e3
    | lenset =>
      have hb : bootBuiltins x = some (.builtin "len") := by rw [of_decide_eq_true h1]; decide +kernel
      refine snd_mkR rfl rfl (pe_wk (pe_callV (.inl ⟨_, rfl⟩) cr_lenX g1 (g.blt x h3) hb (pa_cons inner pa_nil rfl) g3 g2 rfl rfl) fun σ H Q ⟨ρ, l, s, rs, rl, hp⟩ => ?_)
      refine ⟨ρ, l, s, rs, rl, Post.bind bkRR hp fun d s1 ρ1 H1 v1 e1 rs1 r1 hq => ?_⟩
      obtain ⟨o, eo, hq⟩ := post_o hq
      unfold fsR at eo
      obtain ⟨ds, e2, e3⟩ := bindo eo
      split at e3
      · rename_i few
        obtain ⟨pl, vs, rfl, q1, q2⟩ := asL_ok rs1 r1 e2
        simp only at e3
        split at e3
        · rename_i ss e4
          cases e3
          refine ⟨pl, vs, rfl, q1, by rw [q2.length]; exact few, .inl ⟨ss, strsOf_ok q2 e4, fun b L hn ll nd pm => ?_⟩⟩
          obtain ⟨x1, x2⟩ := ext (st := s1) (o := TSO X.prog X.w b L) hn rs1
          have pl2 := pm.length_eq
          rw [List.length_map] at pl2
          exact ⟨b, (uniq ss).length, rfl, by omega, .inl ⟨L, upd_same, pl2⟩, post_val x2 (Post.mono bkRR x1 hq) (rv_int.mpr rfl)⟩
        · obtain ⟨ks, e5, e6⟩ := bindo e3
          split at e6
          · rename_i all
            cases e6
            refine ⟨pl, vs, rfl, q1, by rw [q2.length]; exact few, .inr ⟨ks, fun pins σ s us I r => each_n (keys_is I ds vs us ks q2 r e5) all, fun b L hn ll pm => ?_⟩⟩
            obtain ⟨x1, x2⟩ := ext (st := s1) (o := NSO X.w b L) hn rs1
            have pl2 := pm.length_eq
            rw [List.length_map] at pl2
            exact ⟨b, (uniq ks).length, rfl, by omega, .inr ⟨L, upd_same, pl2⟩, post_val x2 (Post.mono bkRR x1 hq) (rv_int.mpr rfl)⟩
          · cases e6
      · cases e3
  · cases h
end
end Nv

set_option Elab.async false
set_option linter.all false
set_option maxRecDepth 100000
set_option autoImplicit false
set_option maxHeartbeats 4000000
/-! NvCp: comprehensions; all expressions. -/
namespace Nv
open PySem PySem.Spec PyProof.Rows L2
section
variable {T : Tab} {cf : Nat → List D → Sto → Res RD} {k : Nat} {N : List Str}
theorem wipe_in {σ : L2.St} {i : Nat} : ∀ {vs : List Nat}, i ∈ vs → i < σ.length → (wipe σ vs)[i]? = some none
  | v :: vs, h, hl => by
    unfold wipe
    by_cases e : v = i
    · subst e
      rw [List.getElem?_set_self (by rw [wipe_length]; exact hl)]
    · rw [List.getElem?_set_ne e]
      rcases List.mem_cons.mp h with h | h
      · exact absurd h.symm e
      · exact wipe_in h hl
theorem wipe_eq {σ τ : L2.St} {vs : List Nat} (hl : σ.length = (wipe τ vs).length) (h : ∀ j, j ∉ vs → σ[j]? = (wipe τ vs)[j]?) : wipe σ vs = wipe τ vs := by
  have hl2 : σ.length = τ.length := by rw [hl, wipe_length]
  refine List.ext_getElem? fun j => ?_
  by_cases hj : j ∈ vs
  · by_cases hlt : j < τ.length
    · rw [wipe_in hj hlt, wipe_in hj (by rw [hl2]; exact hlt)]
    · rw [List.getElem?_eq_none (by rw [wipe_length, hl2]; omega), List.getElem?_eq_none (by rw [wipe_length]; omega)]
  · rw [wipe_out hj]; exact h j hj
theorem wipeL_length (l : Loc) : ∀ vs : List Nat, (wipeL l vs).length = l.length
  | [] => rfl
  | v :: vs => by unfold wipeL; rw [List.length_set, wipeL_length l vs]
theorem wipeL_some {l : Loc} {i : Nat} {x : D} : ∀ {vs : List Nat}, (wipeL l vs)[i]? = some (some x) → l[i]? = some (some x) ∧ i ∉ vs
  | [], h => ⟨h, by simp⟩
  | v :: vs, h => by
    unfold wipeL at h
    by_cases hi : v = i
    · subst hi
      by_cases hv : v < (wipeL l vs).length
      · rw [List.getElem?_set_self hv] at h; cases h
      · rw [List.getElem?_eq_none (by simpa using hv)] at h; cases h
    · rw [List.getElem?_set_ne hi] at h
      obtain ⟨h1, h2⟩ := wipeL_some h
      exact ⟨h1, by simp only [List.mem_cons, not_or]; exact ⟨fun e => hi e.symm, h2⟩⟩
theorem RL.wipe {K : Kw} {ρ : List Addr} {H : Hp} {σ : L2.St} {l : Loc} (h : RL K ρ H σ l) (vs : List Nat) : RL K ρ H (L2.wipe σ vs) (wipeL l vs) :=
  ⟨by rw [wipe_length, wipeL_length]; exact h.len, fun i d q => by
    obtain ⟨h1, h2⟩ := wipeL_some q
    obtain ⟨v, h3, h4⟩ := h.at_ i d h1
    exact ⟨v, by rw [wipe_out h2]; exact h3, h4⟩⟩
theorem pts_wk {X : Cx} {es : List Expr} {t t' : TT} (h : PTs X es t) (w : ∀ σ H Q, t' σ H Q → t σ H Q) : PTs X es t' := ⟨fun pins s σ H Q I q => h.run pins s σ H Q I (w σ H Q q)⟩
theorem stores_blk {X : Cx} {s : Shared} {H : Hp} {scope : Scope} {cl : List (Str × Addr)} {C : Addr} {fp : List Addr} : Stores scope (X.blk s H scope (compEnvC scope cl C X.env) fp) := by
  intro x hx
  have e : (X.blk s H scope (compEnvC scope cl C X.env) fp).env.scope = relS scope X.env.scope := rfl
  unfold locB at hx
  split at hx
  · rename_i q
    have q2 := lookup_relS_keep (sc := X.env.scope) (names := scope.names) (x := x) (k := .local) (by decide) q
    exact ⟨.inl (by rw [e]; exact q2), .inr (by rw [e]; exact q2)⟩
  · rename_i q
    have q2 := lookup_relS_keep (sc := X.env.scope) (names := scope.names) (x := x) (k := .cell) (by decide) q
    refine ⟨.inr (by rw [e]; exact q2), .inl ?_⟩
    show (scope.names.lookup x == some .cell) = true
    rw [q]
    rfl
  · cases hx
theorem post_ite2 {α β γ : Type} {K : Kw} {W : Wx} {R : Hp → List Addr → Hp → γ → β → Prop} {ρ : List Addr} {H : Hp} {Q : β → Hp → Prop} {c : Prop} {inst : Decidable c} {r : Res α} {f : α → Sto → Res γ} (h : Post K W R ρ H Q ((if c then r else .no).bind f)) : c ∧ Post K W R ρ H Q (r.bind f) := by
  by_cases hc : c
  · rw [if_pos hc] at h; exact ⟨hc, h⟩
  · rw [if_neg hc] at h; exact h.elim
theorem bind_assoc {α β γ : Type} (r : Res α) (f : α → Sto → Res β) (g : β → Sto → Res γ) : (r.bind f).bind g = r.bind fun a s => (f a s).bind g := by cases r <;> rfl
theorem Post.bindN {α β γ δ : Type} {K : Kw} {W W' : Wx} {R : Hp → List Addr → Hp → α → β → Prop} {R2 : Hp → List Addr → Hp → γ → δ → Prop} {ρ ρ0 : List Addr} {H H0 : Hp} {Q : δ → Hp → Prop} {Q1 : β → Hp → Prop} {r : Res α} {f : α → Sto → Res γ} (h : Post K W R2 ρ0 H0 Q ((noX r).bind f))
    (k : ∀ a s1 ρ1 H1 v, Ext K ρ H ρ1 H1 → RS K ρ1 H1 s1 → R H ρ1 H1 a v → Post K W R2 ρ0 H0 Q (f a s1) → Q1 v H1) : Post K W' R ρ H Q1 r := by
  cases r with
  | ok a s => exact fun ρ' H' v e rs rr => k a s ρ' H' v e rs rr h
  | ex x s => exact h.elim
  | no => exact h.elim
/-- the state ahead of a turn -/
def LcInv (K : Kw) (W : Wx) (Q : VK) (tg : Tg) (its : Nv.Its) (c : M Bool) (e : M D) (own : List Nat) (σ : L2.St) (l : Loc) (ρ1 : List Addr) (H1 : Hp) (Dd : Addr) (i m : Nat) (H' : Hp) : Prop :=
  ∃ ρ' s' acc vs, Ext K ρ1 H1 ρ' H' ∧ RS K ρ' H' s' ∧ RL K ρ' H' (L2.wipe σ own) (wipeL l own) ∧ H' Dd = some (.lst vs) ∧ RVs K ρ' H' acc vs ∧ Dd ∉ ρ' ∧ i + m = its.ds.length ∧
    Post K W (rRR K) ρ1 H1 Q ((cpLoop tg its.src c e (wipeL l own) (its.ds.drop i) acc s').bind fun ys s2 => .ok (.l ys) s2)
theorem lc_turns {K : Kw} {mg : Str → Option Value} {Wo : Wx} {Q : VK} {tg : Tg} {its : Nv.Its} {J : It} {c : M Bool} {e : M D} {own : List Nat} {σ : L2.St} {l : Loc} {ρ1 : List Addr} {H1 : Hp} {s1 : Sto} (hsl : ∀ j, j ∈ tg.slots → j ∈ own)
    (rs : RS K ρ1 H1 s1) (rl : RL K ρ1 H1 σ l) (ri : ItOk K ρ1 H1 its J) (hp : Post K Wo (rRR K) ρ1 H1 Q ((cpLoop tg its.src c e (wipeL l own) its.ds [] s1).bind fun ys s2 => .ok (.l ys) s2)) (Dd : Addr) (hD : H1 Dd = none) :
    ∃ W : Nat → Nat → Hp → Prop, (∃ m, W 0 m (upd H1 Dd (.lst []))) ∧ ∀ i m H, W i m H →
      (J.stop i H ∧ Q (.ref Dd) H) ∨ (J.go i H ∧ ∃ Nx : Hp → Prop, (∀ H', Nx H' → ∃ m', m' < m ∧ W (i + 1) m' H') ∧ ∀ x H', J.yld i H x H' → tTg K tg x (L2.wipe σ own) H' fun σ2 H2 => L2.wipe σ2 own = L2.wipe σ own ∧ tBb K (wS mg WF) c σ2 H2 fun b H3 =>
        if b = true then tVv K (wS mg WF) e σ2 H3 fun y H4 => ∃ acc, H4 Dd = some (.lst acc) ∧ acc.length < sizeLine ∧ Nx (upd H4 Dd (.lst (acc ++ [y]))) else Nx H3) := by
  refine ⟨LcInv K Wo Q tg its c e own σ l ρ1 H1 Dd, ⟨its.ds.length, ?_⟩, ?_⟩
  · exact ⟨ρ1, s1, [], [], Ext.laid hD, rs.laid hD, (rl.mono (Ext.laid hD)).wipe own, upd_same, .nil_, rs.fresh hD, by omega, hp⟩
  · rintro i m H ⟨ρ', s', acc, vs, ex, rs', rl', hd, rv, hn, him, hq⟩
    by_cases hlt : i < its.ds.length
    · right
      have hdr : its.ds.drop i = its.ds[i] :: its.ds.drop (i + 1) := List.drop_eq_getElem_cons hlt
      rw [hdr] at hq
      unfold cpLoop at hq
      obtain ⟨so, hq⟩ := post_ite2 hq
      obtain ⟨t1, _⟩ := ri ρ' H s' ex rs' so i
      obtain ⟨go, yl⟩ := t1 its.ds[i] (List.getElem?_eq_getElem hlt)
      refine ⟨go, LcInv K Wo Q tg its c e own σ l ρ1 H1 Dd (i + 1) (m - 1), fun H' w => ⟨m - 1, by omega, w⟩, fun x H2 hy => ?_⟩
      obtain ⟨ex2, rs2, rx⟩ := yl x H2 hy
      cases hb : bindT tg its.ds[i] (wipeL l own) with
      | none => rw [hb] at hq; exact hq.elim
      | some l1 =>
        rw [hb] at hq
        simp only at hq
        rw [bind_assoc] at hq
        refine ⟨ρ', wipeL l own, s', _, rs2, rl'.mono ex2, rx, l1, hb, fun σ2 rl2 hk hlen => ⟨wipe_eq hlen fun j hj => hk j fun z => hj (hsl j z), ?_⟩⟩
        refine ⟨ρ', l1, s', rs2, rl2, Post.bindN hq fun t s3 ρ3 H3 t' ex3 rs3 rt hq3 => ?_⟩
        cases rt
        have d3 : H3 Dd = some (.lst vs) := ex3.oth _ _ (ex2.oth _ _ hd hn) hn
        have n3 : Dd ∉ ρ3 := fun z => by
          rcases (ex2.trans ex3).new _ z with z | z
          · exact hn z
          · rw [hd] at z; cases z
        have e3 := (ex.trans ex2).trans ex3
        cases t with
        | false =>
          refine iteF ⟨ρ3, s3, acc, vs, e3, rs3, (rl'.mono ex2).mono ex3, d3, RVs.mono (ex2.trans ex3) _ _ rv, n3, by omega, ?_⟩
          rw [if_neg Bool.false_ne_true] at hq3
          exact hq3
        | true =>
          rw [if_pos rfl, bind_assoc] at hq3
          refine iteT ⟨ρ3, l1, s3, rs3, rl2.mono ex3, Post.bindN hq3 fun y s4 ρ4 H4 yv ex4 rs4 ry hq4 => ?_⟩
          obtain ⟨hz, hq4⟩ := post_ite2 hq4
          have d4 : H4 Dd = some (.lst vs) := ex4.oth _ _ d3 n3
          have n4 : Dd ∉ ρ4 := fun z => by
            rcases ex4.new _ z with z | z
            · exact n3 z
            · rw [d3] at z; cases z
          have e4 := e3.trans ex4
          have rv4 := RVs.mono ((ex2.trans ex3).trans ex4) _ _ rv
          refine ⟨vs, d4, by rw [rv.length]; exact hz, ρ4, s4, acc ++ [y], vs ++ [yv], e4.poke hD d4, rs4.poke d4 n4, RL.poke d4 (((rl'.mono ex2).mono ex3).mono ex4), upd_same, (rv4.append (.one ry)).poke d4, n4, by omega, hq4⟩
    · left
      have hi : i = its.ds.length := by omega
      have hdr : its.ds.drop i = [] := List.drop_eq_nil_of_le (by omega)
      rw [hdr] at hq
      unfold cpLoop at hq
      obtain ⟨so, hq⟩ := post_ite2 hq
      obtain ⟨_, t2⟩ := ri ρ' H s' ex rs' so i
      exact ⟨t2 hi.symm, hq ρ' H (.ref Dd) ex rs' ⟨Dd, vs, rfl, hd, rv, hn, hD⟩⟩
theorem isNil_eq {t : Ex} (h : t.isNil = true) : t = .nil := by cases t <;> first | rfl | cases h
/-- the parts of a comprehension -/
theorem cp_parts {elt it c : Ex} {tg : Tg} {own : List Nat} (he : SE T cf k N elt) (hi : SE T cf k N it) (hc : SE T cf k N c) {X : Cx} {sc : Scope} {W : WX} {e : Expr} (g : Good T cf k N sc X W) (h : (ck T N (.cp elt tg it c own)).e sc e = true) :
    ∃ x t i ifs scope p, e = .ListComp x [⟨t, i, ifs, 0⟩] scope p ∧ okE i = true ∧ PI X t i (tIi X.kw (wS X.mg W) (den cf T.gc it).i) ∧ BlkOk X.N X.env.scope scope (ownOf N own) ∧ (ownOf N own).map (·.2) = own ∧ (∀ j, j ∈ tg.slots → j ∈ own) ∧
      (∀ (s : Shared) (H : Hp) (C : Addr) (cl : List (Str × Addr)) (fp : List Addr), PG (X.blk s H scope (compEnvC scope cl C X.env) fp) t (tTg X.kw tg)) ∧
      (∀ (s : Shared) (H : Hp) (C : Addr) (cl : List (Str × Addr)) (fp : List Addr), PTs (X.blk s H scope (compEnvC scope cl C X.env) fp) ifs (tBb X.kw (wS X.mg WF) (den cf T.gc c).b)) ∧
      ∀ (s : Shared) (H : Hp) (C : Addr) (cl : List (Str × Addr)) (fp : List Addr), PE (X.blk s H scope (compEnvC scope cl C X.env) fp) x (tVv X.kw (wS X.mg WF) (den cf T.gc elt).v) := by
  simp only [ck] at h
  split at h
  · rename_i x t i ifs scope p
    obtain ⟨h, h7⟩ := and2 h
    obtain ⟨h, h6⟩ := and2 h
    obtain ⟨h, h5⟩ := and2 h
    obtain ⟨h, h4⟩ := and2 h
    obtain ⟨h, h3⟩ := and2 h
    obtain ⟨h, h2⟩ := and2 h
    obtain ⟨h1, htg⟩ := and2 h
    have si := hi X sc W i g h1
    refine ⟨x, t, i, ifs, scope, p, rfl, si.ok, si.i t htg, by rw [g.nm, g.sc]; exact blkOk_by h2, of_decide_eq_true h3, fun j hj => ?_, fun s H C cl fp => ?_, fun s H C cl fp => ?_, fun s H C cl fp => ?_⟩
    · have := List.all_eq_true.mp h5 j hj
      simpa using this
    · exact (pg_any (X := X.blk s H scope (compEnvC scope cl C X.env) fp) (N := N) (scw := scope) g.nm g.nd g.calm stores_blk tg).1 t h4
    · split at h6
      · cases isNil_eq h6
        exact pts_wk pts_nil fun σ H Q ⟨ρ, l, s, rs, rl, hp⟩ => hp ρ H true .refl rs rfl
      · exact pts_one (hc _ _ _ _ (g.blk s H scope cl C fp) (and2 h6).2).b
      · cases h6
    · exact (he _ _ _ _ (g.blk s H scope cl C fp) h7).v
  · cases h
theorem s_cp {elt it c : Ex} {tg : Tg} {own : List Nat} (he : SE T cf k N elt) (hi : SE T cf k N it) (hc : SE T cf k N c) : SE T cf k N (.cp elt tg it c own) := by
  intro X sc W e g h
  obtain ⟨x, t, i, ifs, scope, p, rfl, oki, pi, blk, hown, hsl, hg, ht, hx⟩ := cp_parts he hi hc g h
  have pe := pe_lc (pos := p) g.calm (by rw [g.nm]; exact g.nd) pi blk hg ht hx (ok_fold oki X.env)
  rw [hown] at pe
  refine snd_mkR rfl rfl (pe_wk pe fun σ H Q ⟨ρ, l, s, rs, rl, hp⟩ => ?_)
  exact ⟨ρ, l, s, rs, rl, Post.bind bkRR hp fun its s1 ρ1 H1 J e1 rs1 ri h1 => fun Dd hD => lc_turns hsl rs1 (rl.mono e1) ri h1 Dd hD⟩
theorem ck_lc0 {t : Ex} {sc : Scope} {a : Expr} {b : List Comprehension} {c : Scope} {d : Pos} (h0 : t.isFrz = false) (h : (ck T N t).e sc (.ListComp a b c d) = true) : ∃ elt tg it c own, t = .cp elt tg it c own := by
  cases t <;> first | exact ⟨_, _, _, _, _, rfl⟩ | exact Bool.noConfusion (show false = true from h) | exact Bool.noConfusion (show true = false from h0)
theorem ck_lc {t : Ex} {sc : Scope} {a : Expr} {b : List Comprehension} {c : Scope} {d : Pos} (h : (ck T N t).e sc (.ListComp a b c d) = true) : (∃ elt tg it c own, t = .cp elt tg it c own) ∨ ∃ elt tg it cc own, t = .frz (.cp elt tg it cc own) ∧ (ck T N (.cp elt tg it cc own)).e sc (.ListComp a b c d) = true := by
  cases t with
  | frz u =>
    simp only [ck] at h
    obtain ⟨h, h2⟩ := and2 h
    obtain ⟨_, h1⟩ := and2 h
    obtain ⟨elt, tg, it, cc, own, rfl⟩ := ck_lc0 (by simpa using h1) h2
    exact .inr ⟨elt, tg, it, cc, own, rfl, h2⟩
  | _ => exact .inl (ck_lc0 rfl h)
theorem no_e {t : Ex} (h : ∀ (sc : Scope) (e : Expr), (ck T N t).e sc e = false) : SE T cf k N t := fun X sc W e g q => by rw [h] at q; cases q
theorem no_l {t : Ex} (h : ∀ (sc : Scope) (e : List Expr), (ck T N t).l sc e = false) : SA T cf k N t := fun X sc W e g q => by rw [h] at q; cases q
/-- ALL EXPRESSIONS -/
theorem snd_all (t : Ex) : SE T cf k N t ∧ SA T cf k N t := by
  induction t with
  | nil => exact ⟨no_e fun _ _ => rfl, s_nil⟩
  | cons a b ha hb => exact ⟨no_e fun _ _ => rfl, s_cons ha.1 hb.2⟩
  | var i => exact ⟨s_var i, no_l fun _ _ => rfl⟩
  | int i => exact ⟨s_int i, no_l fun _ _ => rfl⟩
  | str i => exact ⟨s_str i, no_l fun _ _ => rfl⟩
  | bl i => exact ⟨s_bl i, no_l fun _ _ => rfl⟩
  | non => exact ⟨s_non, no_l fun _ _ => rfl⟩
  | gc i => exact ⟨s_gc i, no_l fun _ _ => rfl⟩
  | tup a ha => exact ⟨s_tup ha.2, no_l fun _ _ => rfl⟩
  | lst a ha => exact ⟨s_lst ha.2, no_l fun _ _ => rfl⟩
  | bin o a b ha hb => exact ⟨s_bin ha.1 hb.1, no_l fun _ _ => rfl⟩
  | neg a ha => exact ⟨s_neg ha.1, no_l fun _ _ => rfl⟩
  | nt a ha => exact ⟨s_nt ha.1, no_l fun _ _ => rfl⟩
  | cmp o a b ha hb => exact ⟨s_cmp ha.1 hb.1, no_l fun _ _ => rfl⟩
  | cmp2 o o' a b c ha hb hc => exact ⟨s_cmp2 ha.1 hb.1 hc.1, no_l fun _ _ => rfl⟩
  | kin j kvs a ha => exact ⟨s_kin ha.1, no_l fun _ _ => rfl⟩
  | kix j kvs a ha => exact ⟨s_kix ha.1, no_l fun _ _ => rfl⟩
  | and a b ha hb => exact ⟨s_and ha.1 hb.1, no_l fun _ _ => rfl⟩
  | or a b ha hb => exact ⟨s_or ha.1 hb.1, no_l fun _ _ => rfl⟩
  | ife c a b hc ha hb => exact ⟨s_ife hc.1 ha.1 hb.1, no_l fun _ _ => rfl⟩
  | call f es he => exact ⟨s_call he.2, no_l fun _ _ => rfl⟩
  | b1 f a ha => exact ⟨s_b1 ha.1, no_l fun _ _ => rfl⟩
  | b2 f a b ha hb => exact ⟨s_b2 ha.1 hb.1, no_l fun _ _ => rfl⟩
  | i1 f a ha => exact ⟨s_i1 ha.1, no_l fun _ _ => rfl⟩
  | i2 f a b ha hb => exact ⟨s_i2 ha.1 hb.1, no_l fun _ _ => rfl⟩
  | isin a t ha => exact ⟨s_isin ha.1, no_l fun _ _ => rfl⟩
  | fs f a ha => exact ⟨s_fs ha.1, no_l fun _ _ => rfl⟩
  | dnew => exact ⟨s_dnew, no_l fun _ _ => rfl⟩
  | dget o a b ho ha hb => exact ⟨s_dget ho.1 ha.1 hb.1, no_l fun _ _ => rfl⟩
  | any => exact ⟨s_any, no_l fun _ _ => rfl⟩
  | frz a ha => exact ⟨s_frz ha.1, no_l fun _ _ => rfl⟩
  | rng3 a b c ha hb hc => exact ⟨s_rng3 ha.1 hb.1 hc.1, no_l fun _ _ => rfl⟩
  | m0 m o ho => exact ⟨s_m0 ho.1, no_l fun _ _ => rfl⟩
  | m1 m o a ho ha => exact ⟨s_m1 ho.1 ha.1, no_l fun _ _ => rfl⟩
  | ix a b ha hb => exact ⟨s_ix ha.1 hb.1, no_l fun _ _ => rfl⟩
  | sl a lo hi ha hl hh => exact ⟨s_sl ha.1 hl.1 hh.1, no_l fun _ _ => rfl⟩
  | cp elt tg it c own he hi hc => exact ⟨s_cp he.1 hi.1 hc.1, no_l fun _ _ => rfl⟩
end
end Nv

set_option Elab.async false
set_option linter.all false
set_option maxRecDepth 100000
set_option autoImplicit false
set_option maxHeartbeats 4000000
/-! NvHx: except suites. -/
namespace Nv
open PySem PySem.Spec PyProof.Rows L2
/-- a heap that grows by things that the store does not know -/
def Gw (K : Kw) (H H' : Hp) : Prop := (∀ ρ, Ext K ρ H ρ H') ∧ ∀ ρ s, RS K ρ H s → RS K ρ H' s
theorem Gw.refl {K : Kw} {H : Hp} : Gw K H H := ⟨fun _ => .refl, fun _ _ h => h⟩
theorem Gw.trans {K : Kw} {H H1 H2 : Hp} (a : Gw K H H1) (b : Gw K H1 H2) : Gw K H H2 := ⟨fun ρ => (a.1 ρ).trans (b.1 ρ), fun ρ s h => b.2 ρ s (a.2 ρ s h)⟩
theorem Gw.laid {K : Kw} {H : Hp} {p : Addr} {o : HO} (h : H p = none) : Gw K H (upd H p o) := ⟨fun _ => Ext.laid h, fun _ _ r => r.laid h⟩
def Hs.runS : Hs → L2.St → L2.St
  | .nil, σ => σ
  | .set j x r, σ => r.runS (σ.set j (some (.bl x.run)))
  | .ifs x a r, σ => r.runS (if x.run = true then a.runS σ else σ)
section
variable {K : Kw} {ρ : List Addr} {H : Hp}
theorem RL.unk {σ : L2.St} {l : Nv.Loc} {i : Nat} {u : Option V} (h : RL K ρ H σ l) : RL K ρ H (σ.set i u) (l.set i none) :=
  ⟨by rw [List.length_set, List.length_set]; exact h.len, fun j d q => by
    by_cases hj : i = j
    · subst hj
      by_cases hl : i < l.length
      · rw [List.getElem?_set_self hl] at q; cases q
      · rw [List.getElem?_eq_none (by rw [List.length_set]; omega)] at q; cases q
    · rw [List.getElem?_set_ne hj] at q ⊢
      exact h.at_ j d q⟩
theorem RL.runS : ∀ (h : Hs) {σ : L2.St} {l : Nv.Loc}, RL K ρ H σ l → RL K ρ H (h.runS σ) (h.run l)
  | .nil, _, _, r => r
  | .set j x q, _, _, r => RL.runS q (r.set (rv_bl.mpr rfl))
  | .ifs x a q, σ, l, r => by
    unfold Hs.runS Hs.run
    refine RL.runS q ?_
    split
    · exact RL.runS a r
    · exact r
end
section
variable {T : Tab} {cf : Nat → List D → Sto → Res RD} {k : Nat} {N : List Str} {sc : Scope} {X : Cx} {W : WX} {i : Nat} {n : Str} {C a : Addr} {oe : Obj} {pn : List (Addr × Obj)}
def tHx (K : Kw) (a : Addr) (i : Nat) (b : Bool) : TE := fun σ H Q => σ[i]? = some (some (.ref a)) ∧ ∀ H', Gw K H H' → Q (.bl b) H'
def tHt (K : Kw) (a : Addr) (i : Nat) (b : Bool) : TT := fun σ H Q => σ[i]? = some (some (.ref a)) ∧ ∀ H', Gw K H H' → Q b H'
/-- isinstance(e, (c, ..)) -/
def rIsT (K : PySem.W.Frag) (D a : Addr) : List V → Hp → VK → Prop := fun xs H Q => ∃ (tp : Addr) (vs : List V) (b : Bool), xs = [.ref a, .ref tp] ∧ H tp = some (.tup vs) ∧ (∀ us, Vals vs us → PySem.W.kitAny K (.ref D) us = some b) ∧ Q (.bl b) H
theorem call_isT {D : Addr} (C : ExcC X.K D) (hz : Zc (.ref D) none oe) (hf : ∃ vs, oe.data = .fields vs) : CallR (X.suite a ((a, oe) :: pn)) (.builtin "isinstance") (rIsT X.K D a) := by
  intro pins s σ H xs us Q I r h
  obtain ⟨tp, vs, b, rfl, ht, hk, q⟩ := h
  cases r with
  | cons rx rr =>
    cases rr with
    | cons rt rr =>
      cases rr
      cases rx
      cases rt
      obtain ⟨hget, _⟩ := I.pin (a, oe) (List.mem_append.mpr (.inl List.mem_cons_self))
      obtain ⟨ws, hv⟩ := hf
      have J : PySem.W.InstAt s.heap a oe D none := by
        obtain ⟨oc, od, oda, osl⟩ := oe
        obtain ⟨h1, h2⟩ := hz
        dsimp only at h1 h2 hv
        subst h1 h2 hv
        exact ⟨hget, rfl, rfl, trivial⟩
      obtain ⟨its, rv, ⟨o, ho, hc, m, hd⟩, _⟩ := I.tuple (SqT.of ht)
      obtain ⟨oc, od, oda, osl⟩ := o
      cases hc
      cases hd
      exact PySem.W.kia_tup (PySem.W.handS_kitx_exc C.hg C.hk C.hs C.hd C.ha C.hn C.ht C.hm) I.kIn J ho (hk its rv) (fun z => nomatch z) fun tk => ⟨.bl b, H, I.kept (t' := tk) fun _ _ z => z, rfl, q⟩
/-- a class that is named -/
theorem pe_cls {x : Str} {D : Value} {v : V} {p : Pos} (g : Good T cf k N sc X W) (h : glB sc x = true) (r : RelV v D) (hm : X.mg x = some D ∨ (X.mg x = none ∧ bootBuiltins x = some D ∧ x ≠ "__name__")) : PE (X.suite a pn) (.Name x p) (tC v) := by
  obtain ⟨g1, g2, _⟩ := g.gl h
  rcases hm with hm | ⟨hm, hv, hn⟩
  · exact pe_glob (X := X.suite a pn) g1 hm r g2
  · exact pe_bltn (X := X.suite a pn) g1 hm hv r hn g2
theorem pe_e {e : Str} {p : Pos} (g : Good T cf k N sc X W) (h1 : N[i]? = some e) (h2 : visB sc e = true) (h3 : (e == ("__debug__" : Str)) = false) (h4 : (e == ("__classdict__" : Str)) = false) : PE (X.suite a pn) (.Name e p) (tVar i) :=
  pe_var (X := X.suite a pn) (by show X.N[i]? = _; rw [g.nm]; exact h1) (by show Vis X.env.scope e; rw [g.sc]; exact vis_of h2) h3 h4
/-- names of classes, one behind the other -/
theorem pa_names (g : Good T cf k N sc X W) (hC : X.mg n = some (.ref C)) : ∀ {ts : List Str} {ys : List Expr}, namesAre sc ts ys = true → (∀ t ∈ ts, ∃ b, T.isx.contains (n, t, b) = true) →
    ∃ vs : List V, PA (X.suite a pn) ys (fun σ H Q => Q vs H) ∧ (∀ pos, (backTo pos (starEach ys (X.suite a pn).env)).any (·.1) = false) ∧ ys.length = vs.length ∧ ∀ us, Vals vs us → ∀ b, T.isAny n ts = some b → PySem.W.kitAny X.K (.ref C) us = some b
  | [], [], _, _ => ⟨[], pa_wk pa_nil fun σ H Q h => h, fun _ => rfl, rfl, fun us h b e => by cases h; cases e; rfl⟩
  | [], _ :: _, h, _ => by simp [namesAre] at h
  | t :: ts, [], h, _ => by simp [namesAre] at h
  | t :: ts, y :: ys, h, hx => by
    cases y with
    | Name z p =>
      simp only [namesAre] at h
      obtain ⟨h, h3⟩ := and2 h
      obtain ⟨h1, h2⟩ := and2 h
      cases of_decide_eq_true h1
      obtain ⟨b0, hb0⟩ := hx t (.head _)
      obtain ⟨C', D, v, e1, e2, e3, e4, e5⟩ := g.isx n t b0 hb0
      rw [hC] at e1
      cases e1
      obtain ⟨vs, i1, i2, i3, i4⟩ := pa_names g hC h3 fun t ht => hx t (.tail _ ht)
      refine ⟨v :: vs, pa_wk (pa_cons (pe_cls g h2 e2 e4) i1 rfl) fun σ H Q h => h, fun pos => ?_, by simp [i3], fun us hu b hb => ?_⟩
      · show (false || (backTo pos (starEach ys (X.suite a pn).env)).any (·.1)) = false
        rw [i2 pos]; rfl
      · cases hu with
        | cons r rr =>
          rw [e3 _ r]
          unfold PySem.W.kitAny
          rw [e5]
          unfold Tab.isAny at hb
          cases b0 with
          | true =>
            rw [if_pos hb0] at hb
            cases hb
            rfl
          | false =>
            by_cases ht : T.isx.contains (n, t, true) = true
            · obtain ⟨C2, D2, v2, f1, f2, f3, f4, f5⟩ := g.isx n t true ht
              rw [hC] at f1
              cases f1
              have : D2 = D := by
                rcases e4 with e4 | ⟨e4, e4', _⟩ <;> rcases f4 with f4 | ⟨f4, f4', _⟩
                · rw [e4] at f4; cases f4; rfl
                · rw [e4] at f4; cases f4
                · rw [e4] at f4; cases f4
                · rw [e4'] at f4'; cases f4'; rfl
              subst this
              rw [e5] at f5
              cases f5
            · rw [if_neg ht, if_pos hb0] at hb
              exact i4 _ rr b hb
    | _ => simp [namesAre] at h
theorem isAny_all : ∀ {ts : List Str} {b : Bool}, T.isAny n ts = some b → b = false → ∀ t ∈ ts, ∃ b, T.isx.contains (n, t, b) = true
  | [], _, _, _, t, h => by cases h
  | t :: ts, b, h, hb, x, hx => by
    unfold Tab.isAny at h
    split at h
    · cases h; cases hb
    · split at h
      · rename_i h2
        rcases List.mem_cons.mp hx with e | hx
        · rw [e]; exact ⟨false, h2⟩
        · exact isAny_all h hb x hx
      · cases h
theorem is_boot : bootBuiltins "isinstance" = some (.builtin "isinstance") := by decide +kernel
structure HxOk (X : Cx) (a : Addr) (i : Nat) (e : Expr) (b : Bool) : Prop where
  pe : PE X e (tHx X.kw a i b)
  pt : PT X e (tHt X.kw a i b)
theorem hx_call {e : Expr} {b : Bool} (hp : plainE e = true) (h : PE (X.suite a pn) e (tHx X.kw a i b)) : HxOk (X.suite a pn) a i e b :=
  ⟨h, pt_wk (pt_truth h (plain_true hp (X.suite a pn).env)) fun σ H Q ⟨h1, h2⟩ => ⟨h1, fun H' g => ⟨b, (rfl : b = b), h2 H' g⟩⟩⟩
theorem hx_ok (g : Good T cf k N sc X W) (E : ExcF X.K X.mg n C) (hz : Zc (.ref C) none oe) (hf : ∃ vs, oe.data = .fields vs) : ∀ {x : Hx} {e : Expr}, hxck T N sc i n x e = true → HxOk (X.suite a ((a, oe) :: pn)) a i e x.run := by
  intro x
  induction x with
  | bl b =>
    intro e h
    simp only [hxck] at h
    split at h
    · rename_i y p q
      cases of_decide_eq_true h
      exact hx_call rfl (pe_wk pe_bl fun σ H Q ⟨_, h2⟩ => h2 H .refl)
    · cases h
  | isx m ts b =>
    intro e h
    simp only [hxck] at h
    split at h
    · rename_i x p1 e p2 y p
      obtain ⟨h, h8⟩ := and2 h
      obtain ⟨h, h7⟩ := and2 h
      obtain ⟨h, h6⟩ := and2 h
      obtain ⟨h, h5⟩ := and2 h
      obtain ⟨h, h4⟩ := and2 h
      obtain ⟨h, h3⟩ := and2 h
      obtain ⟨h1, h2⟩ := and2 h
      obtain ⟨g1, g2, g3⟩ := g.gl h2
      have hb : bootBuiltins x = some (.builtin "isinstance") := by rw [of_decide_eq_true h1]; exact is_boot
      have pe0 : PE (X.suite a ((a, oe) :: pn)) (.Name e p2) (tVar i) := pe_e g (of_decide_eq_true h4) h5 (by simpa using h6) (by simpa using h7)
      refine hx_call rfl ?_
      split at h8
      · split at h8
        · rename_i ys q1 q2
          obtain ⟨h8, h11⟩ := and2 h8
          obtain ⟨h8, h10⟩ := and2 h8
          obtain ⟨h8, h9⟩ := and2 h8
          have h11 := of_decide_eq_true h11
          have e10 := of_decide_eq_true h10
          obtain ⟨vs, i1, i2, i3, i4⟩ := pa_names (a := a) (pn := (a, oe) :: pn) g E.mg_ h8 (isAny_all e10 (of_decide_eq_true h9))
          refine pe_wk (pe_callB (X := X.suite a ((a, oe) :: pn)) (call_isT E.is_ hz hf) g1 (g.blt x h3) hb (pa_cons pe0 (pa_cons (pe_tup i1) pa_nil rfl) rfl) g3 g2 rfl rfl) fun σ H Q ⟨hs, hq⟩ => ?_
          exact ⟨.ref a, hs, by rw [← i3, sizeLine_eq]; omega, fun tp htp => ⟨tp, vs, b, rfl, upd_same, fun us hu => i4 us hu b e10, hq _ (Gw.laid htp)⟩⟩
        · cases h8
      · split at h8
        · rename_i z q1
          split at h8
          · rename_i t
            obtain ⟨h8, h10⟩ := and2 h8
            obtain ⟨h8, h9⟩ := and2 h8
            cases of_decide_eq_true h8
            obtain ⟨C', D, v, e1, e2, e3, e4, e5⟩ := g.isx n z b h10
            rw [E.mg_] at e1
            cases e1
            refine pe_wk (pe_callB (X := X.suite a ((a, oe) :: pn)) (call_isE E.is_ hz hf) g1 (g.blt x h3) hb (pa_cons pe0 (pa_cons (pe_cls g h9 e2 e4) pa_nil rfl) rfl) g3 g2 rfl rfl) fun σ H Q ⟨hs, hq⟩ => ?_
            exact ⟨.ref a, hs, v, D, b, rfl, e3, e5, hq H .refl⟩
          · cases h8
        · cases h8
    · cases h
  | and x y hx hy =>
    intro e h
    simp only [hxck] at h
    split at h
    · rename_i u v p
      obtain ⟨h1, h2⟩ := and2 h
      have sx := hx h1
      have sy := hy h2
      refine ⟨pe_wk (pe_and sx.pe (pe_one sy.pe)) fun σ H Q ⟨hs, hq⟩ => ?_, (pw_wk (pw_and sx.pt (pw_and1 sy.pt)) (t' := tHt X.kw a i (x.run && y.run)) fun σ H Q ⟨hs, hq⟩ => ?_).pt⟩
      · refine ⟨hs, fun H1 g1 => ⟨x.run, rfl, ?_⟩⟩
        cases hx' : x.run with
        | true => exact iteT ⟨hs, fun H2 g2 => by have := hq H2 (g1.trans g2); rw [show (Hx.and x y).run = y.run by simp [Hx.run, hx']] at this; exact this⟩
        | false => exact iteF (by have := hq H1 g1; rw [show (Hx.and x y).run = false by simp [Hx.run, hx']] at this; exact this)
      · refine ⟨hs, fun H1 g1 => ?_⟩
        cases hx' : x.run with
        | true => exact iteT ⟨hs, fun H2 g2 => by have := hq H2 (g1.trans g2); rw [show (x.run && y.run) = y.run by simp [hx']] at this; exact this⟩
        | false => exact iteF (by have := hq H1 g1; rw [show (x.run && y.run) = false by simp [hx']] at this; exact this)
    · cases h
  | or x y _ _ => intro e h; simp [hxck] at h
  | nt x _ => intro e h; simp [hxck] at h
def tHs (K : Kw) (a : Addr) (i : Nat) (h : Hs) : TS := fun D σ H => σ[i]? = some (some (.ref a)) ∧ ∀ H', Gw K H H' → D.nx (h.runS σ) H'
theorem hs_slot {v : V} : ∀ (h : Hs) {ss : List Stmt} {σ : L2.St}, hck T N sc i n h ss = true → σ[i]? = some (some v) → (h.runS σ)[i]? = some (some v)
  | .nil, _, _, _, e => e
  | .set j x r, ss, σ, h, e => by
    simp only [hck] at h
    split at h
    · obtain ⟨h, h7⟩ := and2 h
      obtain ⟨h, h6⟩ := and2 h
      obtain ⟨h, h5⟩ := and2 h
      obtain ⟨h, h4⟩ := and2 h
      obtain ⟨h, h3⟩ := and2 h
      obtain ⟨h1, h2⟩ := and2 h
      exact hs_slot r h7 (by rw [List.getElem?_set_ne (of_decide_eq_true h2)]; exact e)
    · cases h
  | .ifs x a r, ss, σ, h, e => by
    simp only [hck] at h
    split at h
    · obtain ⟨h, h3⟩ := and2 h
      obtain ⟨h1, h2⟩ := and2 h
      refine hs_slot r h3 ?_
      split
      · exact hs_slot a h2 e
      · exact e
    · cases h
theorem hs_ok (g : Good T cf k N sc X W) (st : Stores sc X) (E : ExcF X.K X.mg n C) (hz : Zc (.ref C) none oe) (hf : ∃ vs, oe.data = .fields vs) : ∀ (h : Hs) (ss : List Stmt), hck T N sc i n h ss = true → PSs (X.suite a ((a, oe) :: pn)) ss (tHs X.kw a i h) := by
  intro h
  induction h with
  | nil =>
    intro ss h
    simp only [hck] at h
    split at h
    · exact ⟨fun pins s σ H D I q => pss_nil.run pins s σ H D I (q.2 H .refl)⟩
    · cases h
  | set j x r ih =>
    intro ss h
    simp only [hck] at h
    split at h
    · rename_i y p1 v p2 ss
      obtain ⟨h, h7⟩ := and2 h
      obtain ⟨h, h6⟩ := and2 h
      obtain ⟨h, h5⟩ := and2 h
      obtain ⟨h, h4⟩ := and2 h
      obtain ⟨h, h3⟩ := and2 h
      obtain ⟨h1, h2⟩ := and2 h
      obtain ⟨l1, l2⟩ := st y h3
      have sx := hx_ok (a := a) (pn := pn) g E hz hf h6
      have hsw : swapsWith v (some (.Name y p1)) p2.line X.env = pure false := ok_swap h4 (by simpa using h5) _ _ _
      have pg : PG (X.suite a ((a, oe) :: pn)) (.Name y p1) (gName j) := pg_name (X := X.suite a ((a, oe) :: pn)) (by show X.N.Nodup; rw [g.nm]; exact g.nd) (by show X.N[j]? = _; rw [g.nm]; exact of_decide_eq_true h1) l1 l2
      refine ⟨fun pins s σ H D I ⟨q1, q2⟩ => (pss_cons (ps_asg sx.pe pg hsw rfl rfl) (ih ss h7)).run pins s σ H D I ?_⟩
      refine ⟨q1, fun H1 g1 => ?_⟩
      show tHs X.kw a i r D (σ.set j (some (.bl x.run))) H1
      exact ⟨by rw [List.getElem?_set_ne (of_decide_eq_true h2)]; exact q1, fun H2 g2 => q2 H2 (g1.trans g2)⟩
    · cases h
  | ifs x b r iha ihr =>
    intro ss h
    simp only [hck] at h
    split at h
    · rename_i c b' p ss
      obtain ⟨h, h3⟩ := and2 h
      obtain ⟨h1, h2⟩ := and2 h
      have sx := hx_ok (a := a) (pn := pn) g E hz hf h1
      refine ⟨fun pins s σ H D I ⟨q1, q2⟩ => (pss_cons (ps_if sx.pt (iha b' h2) pss_nil) (ihr ss h3)).run pins s σ H D I ?_⟩
      refine ⟨q1, fun H1 g1 => ?_⟩
      unfold Hs.runS at q2
      cases hx' : x.run with
      | true =>
        rw [hx', if_pos rfl] at q2
        exact iteT ⟨q1, fun H2 g2 => ⟨hs_slot b h2 q1, fun H3 g3 => q2 H3 ((g1.trans g2).trans g3)⟩⟩
      | false =>
        rw [hx', if_neg Bool.false_ne_true] at q2
        exact iteF ⟨q1, fun H3 g3 => q2 H3 (g1.trans g3)⟩
    · cases h
end
end Nv

set_option Elab.async false
set_option linter.all false
set_option maxRecDepth 100000
set_option autoImplicit false
set_option maxHeartbeats 4000000
/-! NvSt: statements, functions. -/
namespace Nv
open PySem PySem.Spec PyProof.Rows L2
/-- what is wanted behind a statement's run -/
def PostS (K : Kw) (W : Wx) (ρ : List Addr) (H : Hp) (D : Ends) : Res (Fl × Nv.Loc) → Prop
  | .ok (.nx, l) s => ∀ ρ' H' σ', Ext K ρ H ρ' H' → RS K ρ' H' s → RL K ρ' H' σ' l → D.nx σ' H'
  | .ok (.bk, l) s => ∀ ρ' H' σ', Ext K ρ H ρ' H' → RS K ρ' H' s → RL K ρ' H' σ' l → D.bk σ' H'
  | .ok (.ct, l) s => ∀ ρ' H' σ', Ext K ρ H ρ' H' → RS K ρ' H' s → RL K ρ' H' σ' l → D.ct σ' H'
  | .ok (.rt d, _) s => ∀ ρ' H' v, Ext K ρ H ρ' H' → RS K ρ' H' s → RR K H ρ' H' d v → D.rt v H'
  | .ex x s => ∀ ρ' H', Ext K ρ H ρ' H' → RS K ρ' H' s → W ρ' H' x
  | .no => False
def tSs (K : Kw) (W : L2.St → Wx) (m : SM) : TS := fun D σ H => ∃ ρ l s, RS K ρ H s ∧ RL K ρ H σ l ∧ PostS K (W σ) ρ H D (m l s)
section
variable {K : Kw} {W : Wx} {ρ ρ1 : List Addr} {H H1 : Hp} {D : Ends}
theorem PostS.mono (e : Ext K ρ H ρ1 H1) : ∀ {r : Res (Fl × Nv.Loc)}, PostS K W ρ H D r → PostS K W ρ1 H1 D r
  | .ok (.nx, l) s, h => fun ρ' H' σ' e' rs rl => h ρ' H' σ' (e.trans e') rs rl
  | .ok (.bk, l) s, h => fun ρ' H' σ' e' rs rl => h ρ' H' σ' (e.trans e') rs rl
  | .ok (.ct, l) s, h => fun ρ' H' σ' e' rs rl => h ρ' H' σ' (e.trans e') rs rl
  | .ok (.rt d, l) s, h => fun ρ' H' v e' rs rr => h ρ' H' v (e.trans e') rs (bkRR _ _ _ _ _ _ _ _ e rr)
  | .ex x s, h => fun ρ' H' e' rs => h ρ' H' (e.trans e') rs
  | .no, h => h
theorem PostS.bind {α β : Type} {R : Hp → List Addr → Hp → α → β → Prop} {Q1 : β → Hp → Prop} {r : Res α} {f : α → Sto → Res (Fl × Nv.Loc)} (h : PostS K W ρ H D (r.bind f))
    (k : ∀ a s1 ρ1 H1 v, Ext K ρ H ρ1 H1 → RS K ρ1 H1 s1 → R H ρ1 H1 a v → PostS K W ρ1 H1 D (f a s1) → Q1 v H1) : Post K W R ρ H Q1 r := by
  cases r with
  | ok a s => exact fun ρ' H' v e rs rr => k a s ρ' H' v e rs rr (PostS.mono e h)
  | ex x s => exact h
  | no => exact h
theorem alloc_post {Q : VK} {r : Res RD} (hp : Post K W (rRV K) ρ H Q (allocR r)) : Post K W (rRR K) ρ H Q r := by
  cases r with
  | no => exact hp
  | ex x s1 => exact hp
  | ok a s1 =>
    cases a with
    | d x => exact fun ρ1 H1 v e1 rs1 r1 => hp ρ1 H1 v e1 rs1 r1
    | l xs =>
      intro ρ1 H1 v e1 rs1 r1
      obtain ⟨a, vs, rfl, h1, h2, h3, h4⟩ := r1
      refine hp (ρ1 ++ [a]) H1 (.ref a) (e1.up h4) (rs1.up h1 h3 h2) ?_
      show RV _ _ _ _ _
      unfold RV
      exact ⟨a, rfl, by rw [← rs1.len, List.getElem?_append_right (Nat.le_refl _), Nat.sub_self]; rfl⟩
    | m kvs =>
      intro ρ1 H1 v e1 rs1 r1
      obtain ⟨a, rfl, h1, h3, h4⟩ := r1
      refine hp (ρ1 ++ [a]) H1 (.ref a) (e1.up h4) (rs1.upO h1 h3) ?_
      show RV _ _ _ _ _
      unfold RV
      exact ⟨a, rfl, by rw [← rs1.len, List.getElem?_append_right (Nat.le_refl _), Nat.sub_self]; rfl⟩
end
structure GoodS (T : Tab) (cf : Nat → List D → Sto → Res RD) (k : Nat) (N : List Str) (sc : Scope) (X : Cx) (W : WX) : Prop where
  g : Good T cf k N sc X W
  st : Stores sc X
  po : PassesOwn (model X.prog X.w) X.A X.env X.xe
  kind : X.env.scope.kind = .function
  stk : X.stack = X.env :: X.outer
  frm : X.env.frame = some X.env.locals
/-- what is wanted of an exception, wherever the slots stand -/
def WI (W : WX) : Prop := ∀ c d σ σ' H, W c d σ H → W c d σ' H
section
variable {T : Tab} {cf : Nat → List D → Sto → Res RD} {k : Nat} {N : List Str}
def SS (T : Tab) (cf : Nat → List D → Sto → Res RD) (k : Nat) (N : List Str) (t : Sm) : Prop :=
  ∀ (X : Cx) (sc : Scope) (W : WX) (s : Stmt), GoodS T cf k N sc X W → (WI W ∨ t.simple = true) → (ckS T N t).s sc s = true → PS X s (tSs X.kw (wS X.mg W) (sden cf T.gc t))
def SL (T : Tab) (cf : Nat → List D → Sto → Res RD) (k : Nat) (N : List Str) (t : Sm) : Prop :=
  ∀ (X : Cx) (sc : Scope) (W : WX) (ss : List Stmt), GoodS T cf k N sc X W → (WI W ∨ t.simple = true) → (ckS T N t).l sc ss = true → PSs X ss (tSs X.kw (wS X.mg W) (sden cf T.gc t))
theorem ps_wk {X : Cx} {s : Stmt} {t t' : TS} (h : PS X s t) (w : ∀ D σ H, t' D σ H → t D σ H) : PS X s t' := ⟨fun pins s σ H D I q => h.run pins s σ H D I (w D σ H q)⟩
theorem pss_wk {X : Cx} {s : List Stmt} {t t' : TS} (h : PSs X s t) (w : ∀ D σ H, t' D σ H → t D σ H) : PSs X s t' := ⟨fun pins s σ H D I q => h.run pins s σ H D I (w D σ H q)⟩
theorem t_nil : SL T cf k N .nil := by
  intro X sc W ss g hW h
  simp only [ckS] at h
  split at h
  · exact pss_wk pss_nil fun D σ H ⟨ρ, l, s, rs, rl, hp⟩ => hp ρ H σ .refl rs rl
  · cases h
theorem PostS.toW {K : Kw} {W1 W2 : Wx} {ρ : List Addr} {H : Hp} {D : Ends} (h : ∀ ρ H x, W1 ρ H x → W2 ρ H x) : ∀ {r : Res (Fl × Nv.Loc)}, PostS K W1 ρ H D r → PostS K W2 ρ H D r
  | .ok (.nx, l) s, q => q
  | .ok (.bk, l) s, q => q
  | .ok (.ct, l) s, q => q
  | .ok (.rt d, l) s, q => q
  | .ex x s, q => fun ρ' H' e rs => h _ _ _ (q ρ' H' e rs)
  | .no, q => q
theorem wS_indep {mg : Str → Option Value} {W : WX} (h : WI W) {σ σ' : L2.St} : ∀ ρ H x, wS mg W σ ρ H x → wS mg W σ' ρ H x := fun ρ H x ⟨n, C, e1, e2, e3⟩ => ⟨n, C, e1, e2, h _ _ _ _ _ e3⟩
/-- the run of the first statement, the second behind it -/
theorem seq_post {K : Kw} {W : Wx} {ρ : List Addr} {H : Hp} {D : Ends} {u : TS} {r : Res (Fl × Nv.Loc)} {f : Nv.Loc → Sto → Res (Fl × Nv.Loc)} (hu : ∀ ρ1 H1 σ1 l1 s1, RS K ρ1 H1 s1 → RL K ρ1 H1 σ1 l1 → PostS K W ρ1 H1 D (f l1 s1) → u D σ1 H1)
    (h : PostS K W ρ H D (r.bind fun fl s1 => match fl.1 with | .nx => f fl.2 s1 | x => .ok (x, fl.2) s1)) : PostS K W ρ H { D with nx := u D } r := by
  cases r with
  | ok a s =>
    obtain ⟨fl, l⟩ := a
    cases fl with
    | nx => exact fun ρ' H' σ' e rs rl => hu ρ' H' σ' l s rs rl (PostS.mono e h)
    | bk => exact h
    | ct => exact h
    | rt d => exact h
  | ex x s => exact h
  | no => exact h
theorem simple_cons {a b : Sm} (h : (Sm.cons a b).simple = true) : a.simple = true ∧ b = .nil := by
  cases b <;> simp [Sm.simple] at h
  exact ⟨h, rfl⟩
theorem t_cons {a b : Sm} (ha : SS T cf k N a) (hb : SL T cf k N b) : SL T cf k N (.cons a b) := by
  intro X sc W ss g hW h
  simp only [ckS] at h
  split at h
  · rename_i s r
    obtain ⟨h1, h2⟩ := and2 h
    have wa : WI W ∨ a.simple = true := hW.imp id fun q => (simple_cons q).1
    have wb : WI W ∨ b.simple = true := hW.imp id fun q => by rw [(simple_cons q).2]; rfl
    refine pss_wk (pss_cons (ha X sc W s g wa h1) (hb X sc W r g wb h2)) fun D σ H ⟨ρ, l, s, rs, rl, hp⟩ => ?_
    refine ⟨ρ, l, s, rs, rl, seq_post (fun ρ1 H1 σ1 l1 s1 rs1 rl1 q => ⟨ρ1, l1, s1, rs1, rl1, ?_⟩) hp⟩
    rcases hW with w | w
    · exact PostS.toW (wS_indep w) q
    · rw [(simple_cons w).2] at q ⊢
      exact q
  · cases h
theorem t_ex {e : Ex} : SS T cf k N (.ex e) := by
  intro X sc W s g hW h
  simp only [ckS] at h
  split at h
  · rename_i x p
    obtain ⟨h1, h2⟩ := and2 h
    have se := (snd_all e).1 X sc W x g.g h2
    refine ps_wk (ps_expr se.r (ok_swap se.ok (by simpa using h1) _ _ _)) fun D σ H ⟨ρ, l, s, rs, rl, hp⟩ => ?_
    exact ⟨ρ, l, s, rs, rl, PostS.bind hp fun a s1 ρ1 H1 v e1 rs1 r1 h1 => h1 ρ1 H1 σ .refl rs1 (rl.mono e1)⟩
  · cases h
theorem t_ret {e : Ex} : SS T cf k N (.ret e) := by
  intro X sc W s g hW h
  simp only [ckS] at h
  split at h
  · rename_i x p
    have se := (snd_all e).1 X sc W x g.g h
    refine ps_wk (ps_ret se.r) fun D σ H ⟨ρ, l, s, rs, rl, hp⟩ => ⟨ρ, l, s, rs, rl, ?_⟩
    have hp : PostS X.kw _ ρ H D (((den cf T.gc e).r l s).bind fun d s1 => .ok (.rt d, l) s1) := hp
    cases hm : (den cf T.gc e).r l s with
    | no => rw [hm] at hp; exact hp
    | ex x s1 => rw [hm] at hp; exact hp
    | ok x s1 => rw [hm] at hp; exact fun ρ1 H1 v e1 rs1 r1 => hp ρ1 H1 v e1 rs1 r1
  · cases h
theorem t_retN : SS T cf k N .retN := by
  intro X sc W s g hW h
  simp only [ckS] at h
  split at h
  · exact ps_wk ps_retN fun D σ H ⟨ρ, l, s, rs, rl, hp⟩ => hp ρ H .non .refl rs (show RV X.kw ρ H Nv.D.non .non from rv_non.mpr rfl)
  · cases h
theorem t_any : SS T cf k N .any := fun X sc W s g hW h => ⟨fun pins s σ H D I ⟨_, _, _, _, _, hp⟩ => hp.elim⟩
theorem t_brk : SS T cf k N .brk := by
  intro X sc W s g hW h
  simp only [ckS] at h
  split at h
  · exact ps_wk ps_break fun D σ H ⟨ρ, l, s, rs, rl, hp⟩ => hp ρ H σ .refl rs rl
  · cases h
theorem t_cnt : SS T cf k N .cnt := by
  intro X sc W s g hW h
  simp only [ckS] at h
  split at h
  · exact ps_wk ps_continue fun D σ H ⟨ρ, l, s, rs, rl, hp⟩ => hp ρ H σ .refl rs rl
  · cases h
theorem t_pass : SS T cf k N .pass := by
  intro X sc W s g hW h
  simp only [ckS] at h
  split at h
  · exact ps_wk ps_pass fun D σ H ⟨ρ, l, s, rs, rl, hp⟩ => hp ρ H σ .refl rs rl
  · exact ps_wk ps_doc fun D σ H ⟨ρ, l, s, rs, rl, hp⟩ => hp ρ H σ .refl rs rl
  · cases h
theorem t_ifs {c : Ex} {a b : Sm} (ha : SL T cf k N a) (hb : SL T cf k N b) : SS T cf k N (.ifs c a b) := by
  intro X sc W s g hW h
  simp only [ckS] at h
  split at h
  · rename_i x y z p
    obtain ⟨h, h3⟩ := and2 h
    obtain ⟨h1, h2⟩ := and2 h
    have sc' := (snd_all c).1 X sc W x g.g h1
    refine ps_wk (ps_if sc'.b (ha X sc W y g (hW.imp id fun q => by simp only [Sm.simple] at q; exact (and2 q).1) h2) (hb X sc W z g (hW.imp id fun q => by simp only [Sm.simple] at q; exact (and2 q).2) h3)) fun D σ H ⟨ρ, l, s, rs, rl, hp⟩ => ?_
    refine ⟨ρ, l, s, rs, rl, PostS.bind hp fun t s1 ρ1 H1 v e1 rs1 r1 h1 => ?_⟩
    cases r1
    cases t with
    | true => exact iteT ⟨ρ1, l, s1, rs1, rl.mono e1, h1⟩
    | false => exact iteF ⟨ρ1, l, s1, rs1, rl.mono e1, h1⟩
  · cases h
/-! assignments -/
theorem sw_none {t x : Expr} {env : Env} (ht : okE t = true) (h : (match t with | .Name .. => true | .Subscript .. => true | _ => (match x with | .Tuple .. => false | _ => true)) = true) : swappedStores [t] x env = pure none := by
  cases t with
  | Name _ _ => rfl
  | Subscript _ _ _ => rfl
  | Tuple _ _ _ => cases x <;> first | rfl | cases h
  | List _ _ => cases x <;> first | rfl | cases h
  | _ => rfl
theorem tgt_post {K : Kw} {W : Wx} {ρ ρ1 : List Addr} {H H1 : Hp} {D' : Ends} {tg : Tg} {σ : L2.St} {l : Nv.Loc} {s1 : Sto} {d : Nv.D} {v : V} (e1 : Ext K ρ H ρ1 H1) (rs1 : RS K ρ1 H1 s1) (rl : RL K ρ H σ l) (r1 : RV K ρ1 H1 d v)
    (h : PostS K W ρ1 H1 D' (match bindT tg d l with | some l1 => .ok (.nx, l1) s1 | none => .no)) : tTg K tg v σ H1 D'.nx := by
  cases hb : bindT tg d l with
  | none => rw [hb] at h; exact h.elim
  | some l1 =>
    rw [hb] at h
    exact ⟨ρ1, l, s1, d, rs1, rl.mono e1, r1, l1, hb, fun σ' rl' _ _ => h ρ1 H1 σ' .refl rs1 rl'⟩
theorem swapB_false {sc : Scope} {t x : Expr} {X : Cx} (hs : X.env.scope = sc) (hx : okE x = true) (h : swapB sc t x = some false) (n : Nat) : swapsWith x (some t) n X.env = pure false := by
  cases x with
  | ListComp a b c d =>
    unfold swapB at h
    simp only at h
    split at h
    · rename_i y py
      split at h
      · split at h <;> cases h
      · rename_i hn
        unfold swapsWith
        have : (X.env.kindOf y == some NameKind.local) = false := by
          show (X.env.scope.names.lookup y == some NameKind.local) = false
          rw [hs]
          exact beq_eq_false_iff_ne.mpr hn
        simp only [this, Bool.and_false, Bool.false_and]
    · rename_i hn
      cases t <;> first | rfl | exact absurd rfl (hn _ _)
  | _ => exact ok_swap hx rfl _ _ _
/-- a comprehension given to a name -/
theorem set_lc0 {tg : Tg} {elt it cc : Ex} {tg2 : Tg} {own : List Nat} {X : Cx} {sc : Scope} {W : WX} {t a : Expr} {b : List Comprehension} {c : Scope} {d p : Pos} (g : GoodS T cf k N sc X W) (h1 : ckT N sc tg t = true) (h2 : (ck T N (.cp elt tg2 it cc own)).e sc (.ListComp a b c d) = true) (hsw : swapB sc t (.ListComp a b c d) = some true) :
    ∃ i0, tg = .v i0 ∧ PS X (.Assign [t] (.ListComp a b c d) p) fun D σ H => ∃ ρ l s, RS X.kw ρ H s ∧ RL X.kw ρ H σ l ∧ Post X.kw (wS X.mg W σ) (rRR X.kw) ρ H (fun v H' => gName i0 v σ H' D.nx) (((den cf T.gc it).i l s).bind fun its s1 => (cpLoop tg2 its.src (den cf T.gc cc).b (den cf T.gc elt).v (wipeL l own) its.ds [] s1).bind fun ys s2 => .ok (.l ys) s2) := by
  obtain ⟨x, t2, i, ifs, scope, pp, e0, oki, pi, blk, hown, hsl, hg, ht, hx⟩ := cp_parts (snd_all elt).1 (snd_all it).1 (snd_all cc).1 g.g h2
  cases e0
  cases tg with
  | n => cases t <;> first | cases hsw | (simp [ckT] at h1)
  | c _ _ => cases t <;> first | cases hsw | (simp [ckT] at h1)
  | v i0 =>
    refine ⟨i0, rfl, ?_⟩
    cases t with
    | Name y py =>
      unfold swapB at hsw
      simp only at hsw
      split at hsw
      · rename_i hy
        split at hsw
        · rename_i hc
          have h1' : (decide (N[i0]? = some y) && locB sc y) = true := by simpa [ckT] using h1
          have hy2 : X.env.scope.names.lookup y = some .local := by rw [g.g.sc]; exact hy
          have hkind : X.env.scope.kind = .function := g.kind
          have pe := ps_setLc (i := i0) (y := y) (py := py) (pos := d) (spos := p) g.g.calm (by rw [g.g.nm]; exact g.g.nd) (by rw [g.g.nm]; exact of_decide_eq_true (and2 h1').1) hy2 (sw_true hkind hy2 hc.1 hc.2) pi blk hg ht hx (ok_fold oki X.env)
          rw [hown] at pe
          refine ps_wk pe fun D σ H ⟨ρ, l, s, rs, rl, hq⟩ => ?_
          exact ⟨ρ, l, s, rs, rl, Post.bind bkRR hq fun its s1 ρ1 H1 J e1 rs1 ri h1 => fun Dd hD => lc_turns hsl rs1 (rl.mono e1) ri h1 Dd hD⟩
        · cases hsw
      · cases hsw
    | _ => simp [ckT] at h1
theorem set_lc {tg : Tg} {elt it cc : Ex} {tg2 : Tg} {own : List Nat} {X : Cx} {sc : Scope} {W : WX} {t a : Expr} {b : List Comprehension} {c : Scope} {d p : Pos} (g : GoodS T cf k N sc X W) (h1 : ckT N sc tg t = true) (h2 : (ck T N (.cp elt tg2 it cc own)).e sc (.ListComp a b c d) = true) (hsw : swapB sc t (.ListComp a b c d) = some true) :
    PS X (.Assign [t] (.ListComp a b c d) p) (tSs X.kw (wS X.mg W) (sden cf T.gc (.set tg (.cp elt tg2 it cc own)))) := by
  obtain ⟨i0, rfl, pe⟩ := set_lc0 (p := p) g h1 h2 hsw
  refine ps_wk pe fun D σ H ⟨ρ, l, s, rs, rl, hp⟩ => ?_
  have hp : PostS X.kw _ ρ H D ((allocR (((den cf T.gc it).i l s).bind fun its s1 => (cpLoop tg2 its.src (den cf T.gc cc).b (den cf T.gc elt).v (wipeL l own) its.ds [] s1).bind fun ys s2 => .ok (.l ys) s2)).bind fun d s1 => match bindT (.v i0) d l with
    | some l1 => .ok (.nx, l1) s1
    | none => .no) := hp
  refine ⟨ρ, l, s, rs, rl, alloc_post (PostS.bind hp fun dd s1 ρ1 H1 v e1 rs1 r1 h1 => ?_)⟩
  cases hb : bindT (.v i0) dd l with
  | none => rw [hb] at h1; exact h1.elim
  | some l1 =>
    rw [hb] at h1
    have hb : (if i0 < l.length then some (l.set i0 (some dd)) else none) = some l1 := by simpa [bindT] using hb
    split at hb
    · cases hb
      exact h1 ρ1 H1 _ .refl rs1 ((rl.mono e1).set r1)
    · cases hb
/-- .. that will never change -/
def tFrzS (t : TS) : TS := fun D σ H => t { D with nx := fun σ' H' => D.nx σ' H' ∨ ∃ a u, H' a = some u ∧ L2.Mut (some u) ∧ ∀ od, D.nx σ' (upd H' a (.frz od u)) } σ H
theorem ps_frz {X : Cx} {s : Stmt} {t : TS} (h : PS X s t) : PS X s (tFrzS t) := by
  refine ⟨fun pins s σ H D I hw => ?_⟩
  refine thn (h.run pins s σ H _ I hw) fun f s1 q => ?_
  cases f with
  | next =>
    obtain ⟨σ', H', I2, q⟩ := q
    rcases q with q | ⟨a, vs, h1, hm, q⟩
    · exact ⟨σ', H', I2, q⟩
    · obtain ⟨od, I3⟩ := I2.lock h1 hm
      exact ⟨σ', _, I3, q od⟩
  | brk => exact q
  | cont => exact q
  | ret v => exact q
theorem set_lcF {tg : Tg} {elt it cc : Ex} {tg2 : Tg} {own : List Nat} {X : Cx} {sc : Scope} {W : WX} {t a : Expr} {b : List Comprehension} {c : Scope} {d p : Pos} (g : GoodS T cf k N sc X W) (h1 : ckT N sc tg t = true) (h2 : (ck T N (.cp elt tg2 it cc own)).e sc (.ListComp a b c d) = true) (hsw : swapB sc t (.ListComp a b c d) = some true) :
    PS X (.Assign [t] (.ListComp a b c d) p) (tSs X.kw (wS X.mg W) (sden cf T.gc (.set tg (.frz (.cp elt tg2 it cc own))))) := by
  obtain ⟨i0, rfl, pe⟩ := set_lc0 (p := p) g h1 h2 hsw
  refine ps_wk (ps_frz pe) fun D σ H ⟨ρ, l, s, rs, rl, hp⟩ => ⟨ρ, l, s, rs, rl, ?_⟩
  have hp : PostS X.kw _ ρ H D ((allocR ((((den cf T.gc it).i l s).bind fun its s1 => (cpLoop tg2 its.src (den cf T.gc cc).b (den cf T.gc elt).v (wipeL l own) its.ds [] s1).bind fun ys s2 => .ok (.l ys) s2).bind fun x s1 => .ok (frzR x) s1)).bind fun d s1 => match bindT (.v i0) d l with
    | some l1 => .ok (.nx, l1) s1
    | none => .no) := hp
  cases hm : (((den cf T.gc it).i l s).bind fun its s1 => (cpLoop tg2 its.src (den cf T.gc cc).b (den cf T.gc elt).v (wipeL l own) its.ds [] s1).bind fun ys s2 => (.ok (.l ys) s2 : Res RD)) with
  | no => rw [hm] at hp; exact hp
  | ex x s1 => rw [hm] at hp; exact hp
  | ok x s1 =>
    obtain ⟨xs, rfl⟩ : ∃ xs, x = .l xs := by
      cases hi : (den cf T.gc it).i l s with
      | no => rw [hi] at hm; cases hm
      | ex _ _ => rw [hi] at hm; cases hm
      | ok its s2 =>
        rw [hi] at hm
        have hm : (cpLoop tg2 its.src (den cf T.gc cc).b (den cf T.gc elt).v (wipeL l own) its.ds [] s2).bind (fun ys s2 => (.ok (.l ys) s2 : Res RD)) = .ok x s1 := hm
        cases hc : cpLoop tg2 its.src (den cf T.gc cc).b (den cf T.gc elt).v (wipeL l own) its.ds [] s2 with
        | no => rw [hc] at hm; cases hm
        | ex _ _ => rw [hc] at hm; cases hm
        | ok ys s3 => rw [hc] at hm; cases hm; exact ⟨ys, rfl⟩
    rw [hm] at hp
    have hp : PostS X.kw _ ρ H D (match bindT (.v i0) (.lf xs) l with | some l1 => .ok (.nx, l1) s1 | none => .no) := hp
    intro ρ1 H1 v e1 rs1 r1
    cases hb : bindT (.v i0) (.lf xs) l with
    | none => rw [hb] at hp; exact hp.elim
    | some l1 =>
      rw [hb] at hp
      have hp : ∀ ρ' H' σ', Ext X.kw ρ H ρ' H' → RS X.kw ρ' H' s1 → RL X.kw ρ' H' σ' l1 → D.nx σ' H' := hp
      have hb : (if i0 < l.length then some (l.set i0 (some (.lf xs))) else none) = some l1 := by simpa [bindT] using hb
      split at hb
      · cases hb
        rcases frz_rr e1 rs1 r1 with q | ⟨a, u, rfl, q1, q2, q⟩
        · exact .inl (hp ρ1 H1 _ e1 rs1 ((rl.mono e1).set q))
        · refine .inr ⟨a, u, q1, q2, fun od => ?_⟩
          obtain ⟨z1, z2, z3⟩ := q od
          exact hp ρ1 _ _ z1 z2 ((rl.mono z1).set z3)
      · cases hb
theorem t_set {tg : Tg} {e : Ex} : SS T cf k N (.set tg e) := by
  intro X sc W s g hW h
  simp only [ckS] at h
  split at h
  · rename_i t x p
    obtain ⟨h, h4⟩ := and2 h
    obtain ⟨h, h3⟩ := and2 h
    obtain ⟨h1, h2⟩ := and2 h
    have se := (snd_all e).1 X sc W x g.g h2
    have pg := (pg_any (X := X) (N := N) (scw := sc) g.g.nm g.g.nd g.g.calm g.st tg).1 t h1
    have hw : swappedStores [t] x X.env = pure none := by
      refine sw_none (ckT_ok h1) ?_
      cases tg with
      | v i =>
        cases t with
        | Name _ _ => rfl
        | _ => simp [ckT] at h1
      | n => cases t <;> first | rfl | exact h3
      | c a b => cases t <;> first | rfl | exact h3
    cases hsw : swapB sc t x with
    | none => rw [hsw] at h4; cases h4
    | some b =>
      cases b with
      | false =>
        refine ps_wk (ps_asg se.v pg (swapB_false g.g.sc se.ok hsw p.line) hw (by rw [assignEach_ok (ckT_ok h1)]; rfl)) fun D σ H ⟨ρ, l, s, rs, rl, hp⟩ => ?_
        exact ⟨ρ, l, s, rs, rl, PostS.bind hp fun d s1 ρ1 H1 v e1 rs1 r1 h1 => tgt_post e1 rs1 rl r1 h1⟩
      | true =>
        obtain ⟨a, b, c, d, rfl⟩ : ∃ a b c d, x = .ListComp a b c d := by
          cases x <;> first | exact ⟨_, _, _, _, rfl⟩ | exact Bool.noConfusion (Option.some.inj (show some false = some true from hsw))
        rcases ck_lc h2 with ⟨elt, tg2, it, cc, own, rfl⟩ | ⟨elt, tg2, it, cc, own, rfl, h2⟩
        · exact set_lc g h1 h2 hsw
        · exact set_lcF g h1 h2 hsw
  · cases h

theorem sub_ok {y : Expr} (h : okE y = true) (x : Expr) (p : Pos) (env : Env) : ∀ v, assign (.Subscript x y p) env v = (do
      let ov ← holding [v] (eval x env)
      let iv ← holding [v, ov] (eval y env)
      standAt p
      holding [v, ov, iv] (setItem ov iv v)
      release [v, ov, iv] []) := by
  intro v
  cases y <;> first | rfl | cases h
theorem setR_ex {p k d : Nv.D} {s s' : Sto} {x : Nv.D} {P : Prop} (h : setR p k d s = .ex x s') : P := by
  unfold setR at h
  split at h
  · split at h
    · split at h
      · split at h <;> cases h
      · cases h
    · split at h
      · split at h <;> cases h
      · cases h
    · cases h
  · cases h
theorem t_setI {o i e : Ex} : SS T cf k N (.setI o i e) := by
  intro X sc W s g hW h
  simp only [ckS] at h
  split at h
  · rename_i x y p1 z p2
    obtain ⟨h, h3⟩ := and2 h
    obtain ⟨h1, h2⟩ := and2 h
    have so := (snd_all o).1 X sc W x g.g h1
    have si := (snd_all i).1 X sc W y g.g h2
    have se := (snd_all e).1 X sc W z g.g h3
    have hsw : swapsWith z (some (.Subscript x y p1)) p2.line X.env = pure false := by
      cases hz : z with
      | ListComp a b c d => rfl
      | _ => rw [← hz]; exact ok_swap se.ok (by rw [hz]; rfl) _ _ _
    refine ps_wk (ps_asg se.v (pg_sub so.v si.v (set_any (by have := g.g.hu; omega)) (sub_ok si.ok x p1 X.env)) hsw rfl rfl) fun D σ H ⟨ρ, l, s, rs, rl, hp⟩ => ?_
    refine ⟨ρ, l, s, rs, rl, PostS.bind hp fun d s1 ρ1 H1 v e1 rs1 r1 h1 => ?_⟩
    refine ⟨ρ1, l, s1, rs1, rl.mono e1, PostS.bind h1 fun p s2 ρ2 H2 v2 e2 rs2 r2 h2 => ?_⟩
    refine ⟨ρ2, l, s2, rs2, (rl.mono e1).mono e2, PostS.bind h2 fun kk s3 ρ3 H3 v3 e3 rs3 r3 h3 => ?_⟩
    refine ⟨ρ3, s3, p, kk, d, rs3, RV.mono e3 _ _ r2, r3, RV.mono (e2.trans e3) _ _ r1, ?_⟩
    cases hs : setR p kk d s3 with
    | no => rw [hs] at h3; exact h3.elim
    | ex x s => rw [hs] at h3; exact setR_ex hs
    | ok a s4 =>
      rw [hs] at h3
      exact fun H' e4 rs4 => h3 ρ3 H' σ e4 rs4 ((((rl.mono e1).mono e2).mono e3).mono e4)
  · cases h
def rAug (K : PySem.W.Frag) (o : Bop) : TIp := fun x y H Q => (∃ i j, x = .int i ∧ y = .int j ∧ ((o = .add ∧ Q (.int (i + j)) H) ∨ (o = .sub ∧ Q (.int (i - j)) H))) ∨ ∃ i j, x = .str i ∧ y = .str j ∧ o = .add ∧ i.length + j.length ≤ sizeLine ∧ Q (.str (i ++ j)) H
theorem ip_aug {X : Cx} (o : Bop) : PIp X o.op (rAug X.K o) := by
  intro pins s σ H x y v u Q I r1 r2 h
  rcases h with ⟨i, j, rfl, rfl, ⟨rfl, q⟩ | ⟨rfl, q⟩⟩ | ⟨i, j, rfl, rfl, rfl, hz, q⟩
  · exact ip_add pins s σ H _ _ v u Q I r1 r2 ⟨i, j, rfl, rfl, q⟩
  · exact ip_sub pins s σ H _ _ v u Q I r1 r2 ⟨i, j, rfl, rfl, q⟩
  · exact iop_add_str pins s σ H _ _ v u Q I r1 r2 ⟨i, j, rfl, rfl, hz, q⟩
theorem t_aug {i : Nat} {o : Bop} {e : Ex} : SS T cf k N (.aug i o e) := by
  intro X sc W s g hW h
  simp only [ckS] at h
  split at h
  · rename_i x p1 op z p2
    obtain ⟨h, h4⟩ := and2 h
    obtain ⟨h, h3⟩ := and2 h
    obtain ⟨h1, h2⟩ := and2 h
    cases of_decide_eq_true h1
    have se := (snd_all e).1 X sc W z g.g h4
    obtain ⟨l1, l2⟩ := g.st x h3
    refine ps_wk (ps_aug (i := i) (by rw [g.g.nm]; exact g.g.nd) (by rw [g.g.nm]; exact of_decide_eq_true h2) l1 se.r (ip_aug o) l2) fun D σ H ⟨ρ, l, s, rs, rl, hp⟩ => ?_
    have hp : PostS X.kw _ ρ H D (match l[i]? with
      | some (some x) => ((den cf T.gc e).r l s).bind fun y s1 => (ofO (augR o x y) s1).bind fun d s2 => .ok (.nx, l.set i (some d)) s2
      | _ => .no) := hp
    split at hp
    · rename_i d hd
      obtain ⟨v, h5, h6⟩ := rl.at_ i d hd
      refine ⟨v, h5, ρ, l, s, rs, rl, PostS.bind hp fun y s1 ρ1 H1 yv e1 rs1 r1 h1 => ?_⟩
      have h6 := RV.mono e1 _ _ h6
      cases ha : augR o d y with
      | none => rw [ha] at h1; exact h1.elim
      | some d' =>
        rw [ha] at h1
        have fin : ∀ v', RV X.kw ρ1 H1 d' v' → D.nx (σ.set i (some v')) H1 := fun v' r' => h1 ρ1 H1 _ .refl rs1 ((rl.mono e1).set r')
        unfold augR at ha
        split at ha
        · cases ha
          exact .inl ⟨_, _, rv_int.mp h6, rr_int r1, .inl ⟨rfl, fin _ (rv_int.mpr rfl)⟩⟩
        · cases ha
          exact .inl ⟨_, _, rv_int.mp h6, rr_int r1, .inr ⟨rfl, fin _ (rv_int.mpr rfl)⟩⟩
        · split at ha
          · rename_i hz
            cases ha
            exact .inr ⟨_, _, rv_str.mp h6, rr_str r1, rfl, hz, fin _ (rv_str.mpr rfl)⟩
          · cases ha
        · cases ha
    · exact hp.elim
  · cases h
/-! loops -/
/-- a turn's end -/
theorem turn_post {K : Kw} {W : Wx} {ρ : List Addr} {H : Hp} {D : Ends} {Nx : L2.St → Hp → Prop} {r : Res (Fl × Nv.Loc)} {f : Nv.Loc → Sto → Res (Fl × Nv.Loc)} (hn : ∀ ρ1 H1 σ1 l1 s1, Ext K ρ H ρ1 H1 → RS K ρ1 H1 s1 → RL K ρ1 H1 σ1 l1 → PostS K W ρ1 H1 D (f l1 s1) → Nx σ1 H1)
    (h : PostS K W ρ H D (r.bind fun fl s1 => match fl.1 with
      | .nx => f fl.2 s1
      | .ct => f fl.2 s1
      | .bk => .ok (.nx, fl.2) s1
      | .rt d => .ok (.rt d, fl.2) s1)) : PostS K W ρ H { D with nx := Nx, ct := Nx, bk := D.nx } r := by
  cases r with
  | ok a s =>
    obtain ⟨fl, l⟩ := a
    cases fl with
    | nx => exact fun ρ' H' σ' e rs rl => hn ρ' H' σ' l s e rs rl (PostS.mono e h)
    | ct => exact fun ρ' H' σ' e rs rl => hn ρ' H' σ' l s e rs rl (PostS.mono e h)
    | bk => exact h
    | rt d => exact h
  | ex x s => exact h
  | no => exact h
theorem t_wh {c : Ex} {b : Sm} (hb : SL T cf k N b) : SS T cf k N (.wh c b) := by
  intro X sc W s g hW h
  simp only [ckS] at h
  split at h
  · rename_i x y p
    obtain ⟨h1, h2⟩ := and2 h
    have sc' := (snd_all c).1 X sc W x g.g h1
    have w : WI W := hW.resolve_right (by simp [Sm.simple])
    refine ps_wk (ps_while g.po sc'.b (hb X sc W y g (.inl w) h2)) fun D σ H ⟨ρ, l, s, rs, rl, hp⟩ => ?_
    refine ⟨fun m σ H => ∃ ρ l s, RS X.kw ρ H s ∧ RL X.kw ρ H σ l ∧ PostS X.kw (wS X.mg W σ) ρ H D (whLoop (den cf T.gc c).b (sden cf T.gc b) m l s), ⟨whileFuel, ρ, l, s, rs, rl, hp⟩, ?_⟩
    rintro m σ H ⟨ρ, l, s, rs, rl, hp⟩
    cases m with
    | zero => exact hp.elim
    | succ m =>
      unfold whLoop at hp
      refine ⟨ρ, l, s, rs, rl, PostS.bind hp fun t s1 ρ1 H1 v e1 rs1 r1 h1 => ?_⟩
      cases r1
      cases t with
      | false =>
        rw [if_neg Bool.false_ne_true] at h1
        exact iteF (h1 ρ1 H1 σ .refl rs1 (rl.mono e1))
      | true =>
        rw [if_pos rfl] at h1
        refine iteT ⟨fun σ' H' => ∃ ρ l s, RS X.kw ρ H' s ∧ RL X.kw ρ H' σ' l ∧ PostS X.kw (wS X.mg W σ') ρ H' D (whLoop (den cf T.gc c).b (sden cf T.gc b) m l s), fun σ' H' q => ⟨m, by omega, q⟩, ?_⟩
        exact ⟨ρ1, l, s1, rs1, rl.mono e1, turn_post (fun ρ2 H2 σ2 l2 s2 _ rs2 rl2 q => ⟨ρ2, l2, s2, rs2, rl2, PostS.toW (wS_indep w) q⟩) h1⟩
  · cases h
theorem posts_ite {K : Kw} {W : Wx} {ρ : List Addr} {H : Hp} {D : Ends} {c : Prop} {inst : Decidable c} {r : Res (Fl × Nv.Loc)} (h : PostS K W ρ H D (if c then r else .no)) : c ∧ PostS K W ρ H D r := by
  by_cases hc : c
  · rw [if_pos hc] at h; exact ⟨hc, h⟩
  · rw [if_neg hc] at h; exact h.elim
theorem t_for {tg : Tg} {it : Ex} {b : Sm} (hb : SL T cf k N b) : SS T cf k N (.for_ tg it b) := by
  intro X sc W s g hW h
  simp only [ckS] at h
  split at h
  · rename_i t x y p
    obtain ⟨h, h3⟩ := and2 h
    obtain ⟨h, h2⟩ := and2 h
    obtain ⟨h1, htg⟩ := and2 h
    have si := (snd_all it).1 X sc W x g.g h2
    have pg := (pg_any (X := X) (N := N) (scw := sc) g.g.nm g.g.nd g.g.calm g.st tg).1 t h1
    have wi : WI W := hW.resolve_right (by simp [Sm.simple])
    refine ps_wk (ps_for g.po g.g.calm (si.i t htg) pg (hb X sc W y g (.inl wi) h3) (ok_fold si.ok X.env)) fun D σ H ⟨ρ, l, s, rs, rl, hp⟩ => ?_
    refine ⟨ρ, l, s, rs, rl, PostS.bind hp fun its s1 ρ1 H1 J e1 rs1 ri h1 => ?_⟩
    refine ⟨fun i m σ H => ∃ ρ l s, Ext X.kw ρ1 H1 ρ H ∧ RS X.kw ρ H s ∧ RL X.kw ρ H σ l ∧ i + m = its.ds.length ∧ PostS X.kw (wS X.mg W σ) ρ H D (forLoop tg its.src (sden cf T.gc b) (its.ds.drop i) l s), ⟨its.ds.length, ρ1, l, s1, .refl, rs1, rl.mono e1, by omega, h1⟩, ?_⟩
    rintro i m σ H ⟨ρ, l, s, ex, rs, rl, him, hq⟩
    by_cases hlt : i < its.ds.length
    · right
      rw [List.drop_eq_getElem_cons hlt] at hq
      unfold forLoop at hq
      obtain ⟨so, hq⟩ := posts_ite hq
      obtain ⟨t1, _⟩ := ri ρ H s ex rs so i
      obtain ⟨go, yl⟩ := t1 its.ds[i] (List.getElem?_eq_getElem hlt)
      refine ⟨go, fun σ' H' => ∃ ρ l s, Ext X.kw ρ1 H1 ρ H' ∧ RS X.kw ρ H' s ∧ RL X.kw ρ H' σ' l ∧ i + 1 + (m - 1) = its.ds.length ∧ PostS X.kw (wS X.mg W σ') ρ H' D (forLoop tg its.src (sden cf T.gc b) (its.ds.drop (i + 1)) l s), fun σ' H' w => ⟨m - 1, by omega, w⟩, fun v H2 hy => ?_⟩
      obtain ⟨ex2, rs2, rx⟩ := yl v H2 hy
      cases hbd : bindT tg its.ds[i] l with
      | none => rw [hbd] at hq; exact hq.elim
      | some l1 =>
        rw [hbd] at hq
        refine ⟨ρ, l, s, _, rs2, rl.mono ex2, rx, l1, hbd, fun σ2 rl2 _ _ => ?_⟩
        have hq2 := PostS.toW (wS_indep (σ' := σ2) wi) (PostS.mono ex2 hq)
        exact ⟨ρ, l1, s, rs2, rl2, turn_post (fun ρ3 H3 σ3 l3 s3 ex3 rs3 rl3 q => ⟨ρ3, l3, s3, (ex.trans ex2).trans ex3, rs3, rl3, by omega, PostS.toW (wS_indep wi) q⟩) hq2⟩
    · left
      have hi : i = its.ds.length := by omega
      rw [List.drop_eq_nil_of_le (by omega)] at hq
      unfold forLoop at hq
      obtain ⟨so, hq⟩ := posts_ite hq
      obtain ⟨_, t2⟩ := ri ρ H s ex rs so i
      exact ⟨t2 hi.symm, hq ρ H σ .refl rs rl⟩
  · cases h
/-- o[lo:hi] = .. -/
def gSl (to : TE) (tl th : TO) : TG := fun v σ H Q => to σ H fun o H1 => tl σ H1 fun a H2 => th σ H2 fun c H3 => ∃ (l b : Addr) (xs ys : List V) (i j : Int), o = .ref l ∧ v = .ref b ∧ H3 l = some (.lst xs) ∧ H3 b = some (.lst ys) ∧ l ≠ b ∧ a = some i ∧ c = some j ∧ 0 ≤ i ∧ i ≤ j ∧ j ≤ xs.length ∧
  xs.length + ys.length ≤ sizeLine ∧ Q σ (upd H3 l (.lst (xs.take i.toNat ++ ys ++ xs.drop j.toNat)))
theorem pg_sl {X : Cx} {o : Expr} {lo hi : Option Expr} {p2 pos : Pos} {to : TE} {tl th : TO} (ho : PE X o to) (hl : PO X lo tl) (hu : PO X hi th) : PG X (.Subscript o (.Slice lo hi none p2) pos) (gSl to tl th) := by
  refine ⟨fun pins s σ H v u Q I r h => ?_⟩
  have ha : assign (.Subscript o (.Slice lo hi none p2) pos) X.env u = (do
      let ov ← holding [u] (eval o X.env)
      let iv ← holding [u, ov] (eval (.Slice lo hi none p2) X.env)
      standAt pos
      holding [u, ov, iv] (setItem ov iv u)
      release [iv, u, ov] []) := by rfl
  rw [ha]
  refine wpAny_bind (wpAny_holding (thn (ho.run pins s σ H _ I h) fun ov s1 ⟨x, H1, I1, r1, q1⟩ => ?_))
  refine wpAny_bind (wpAny_holding ?_)
  refine wpAny_Slice (thn (hl.run pins s1 σ H1 _ I1 q1) fun vl s2 ⟨a, H2, I2, pl, q2⟩ => thn (hu.run pins s2 σ H2 _ I2 q2) fun vu s3 ⟨c, H3, I3, pu, q3⟩ => ?_)
  rw [evalPart_none]
  refine wpAny_pure ?_
  obtain ⟨l, b, xs, ys, i, j, rfl, rfl, hx, hy, hne, rfl, rfl, h1, h2, h3, h4, q⟩ := q3
  cases r
  cases r1
  have I4 : Inv X pins σ H3 { s3 with heap := s3.heap.push { cls := .type "slice", data := .fields #[vl, vu, .none] } } := I3.kept (t' := s3.toks) fun b ob q => Heap.get?_push_of_some _ q
  show wpAny (model X.prog X.w) X.A (standAt pos >>= fun _ => _) _ X.xe { s3 with heap := s3.heap.push { cls := .type "slice", data := .fields #[vl, vu, .none] } }
  refine wpAny_bind (wpAny_standAt (wpAny_bind (wpAny_holding ?_)))
  refine set_slice I4 hx hy hne (Heap.IsSliceOf.new ..) (a := i) (c := j) ?_ ?_ h1 h2 h3 h4 fun s' I' => wpAny_release ⟨σ, _, I', q⟩
  · cases pl; exact ⟨_, rfl⟩
  · cases pu; exact ⟨_, rfl⟩
theorem t_setSl {o lo hi e : Ex} : SS T cf k N (.setSl o lo hi e) := by
  intro X sc W s g hW h
  simp only [ckS] at h
  split at h
  · rename_i x a b p0 p1 z p2
    obtain ⟨h, h4⟩ := and2 h
    obtain ⟨h, h3⟩ := and2 h
    obtain ⟨h1, h2⟩ := and2 h
    have so := (snd_all o).1 X sc W x g.g h1
    have sl := (snd_all lo).1 X sc W a g.g h2
    have sh := (snd_all hi).1 X sc W b g.g h3
    have se := (snd_all e).1 X sc W z g.g h4
    have hsw : swapsWith z (some (.Subscript x (.Slice (some a) (some b) none p0) p1)) p2.line X.env = pure false := by
      cases hz : z with
      | ListComp a b c d => rfl
      | _ => rw [← hz]; exact ok_swap se.ok (by rw [hz]; rfl) _ _ _
    refine ps_wk (ps_asg se.v (pg_sl so.v (po_some sl.r) (po_some sh.r)) hsw rfl rfl) fun D σ H ⟨ρ, l, s, rs, rl, hp⟩ => ?_
    refine ⟨ρ, l, s, rs, rl, PostS.bind hp fun d s1 ρ1 H1 v e1 rs1 r1 h1 => ?_⟩
    refine ⟨ρ1, l, s1, rs1, rl.mono e1, PostS.bind h1 fun p s2 ρ2 H2 v2 e2 rs2 r2 h2 => ?_⟩
    have rl2 := (rl.mono e1).mono e2
    have h2' : PostS X.kw (wS X.mg W σ) ρ2 H2 D (((den cf T.gc lo).r l s2).bind fun y s3 => (match y with | .d (.int i) => (.ok (some i) s3 : Res (Option Int)) | _ => .no).bind fun i s3 => (optI false (den cf T.gc hi).r l s3).bind fun j s4 =>
      match i, j with
      | some i, some j => (setSlR p d i j s4).bind fun _ s5 => .ok (.nx, l) s5
      | _, _ => .no) := by
      have e : (optI false (den cf T.gc lo).r l s2) = ((den cf T.gc lo).r l s2).bind fun y s3 => (match y with | .d (.int i) => (.ok (some i) s3 : Res (Option Int)) | _ => .no) := rfl
      rw [e, bind_assoc] at h2
      exact h2
    refine ⟨ρ2, l, s2, rs2, rl2, PostS.bind h2' fun y s3 ρ3 H3 v3 e3 rs3 r3 h3 => ?_⟩
    have key : ∀ i : Int, y = .d (.int i) → PostS X.kw (wS X.mg W σ) ρ3 H3 D (((den cf T.gc hi).r l s3).bind fun w s4 => (match w with | .d (.int j) => (.ok (some j) s4 : Res (Option Int)) | _ => .no).bind fun j s4 =>
      match some i, j with
      | some i, some j => (setSlR p d i j s4).bind fun _ s5 => .ok (.nx, l) s5
      | _, _ => .no) := by
      intro i ey
      subst ey
      have e : (optI false (den cf T.gc hi).r l s3) = ((den cf T.gc hi).r l s3).bind fun y s3 => (match y with | .d (.int i) => (.ok (some i) s3 : Res (Option Int)) | _ => .no) := rfl
      have h4 : PostS X.kw (wS X.mg W σ) ρ3 H3 D ((optI false (den cf T.gc hi).r l s3).bind fun j s4 => match some i, j with
        | some i, some j => (setSlR p d i j s4).bind fun _ s5 => .ok (.nx, l) s5
        | _, _ => .no) := h3
      rw [e, bind_assoc] at h4
      exact h4
    cases y with
    | l z => exact h3.elim
    | m z => exact h3.elim
    | d z => cases z with
      | int i =>
        refine ⟨i, rr_int r3, ρ3, l, s3, rs3, rl2.mono e3, PostS.bind (key i rfl) fun w s4 ρ4 H4 v4 e4 rs4 r4 h4 => ?_⟩
        cases w with
        | l z => exact h4.elim
        | m z => exact h4.elim
        | d z => cases z with
          | int j =>
            have h5 : PostS X.kw _ ρ4 H4 D ((setSlR p d i j s4).bind fun _ s5 => .ok (.nx, l) s5) := h4
            refine ⟨j, rr_int r4, ?_⟩
            cases hs : setSlR p d i j s4 with
            | no => rw [hs] at h5; exact h5.elim
            | ex _ _ =>
              unfold setSlR at hs
              split at hs
              · split at hs
                · split at hs <;> cases hs
                · cases hs
              · cases hs
            | ok _ s5 =>
              rw [hs] at h5
              unfold setSlR at hs
              split at hs
              · rename_i pa qa
                split at hs
                · rename_i xs ys ex ey
                  split at hs
                  · rename_i c
                    cases hs
                    obtain ⟨c1, c2, c3, c4, c5⟩ := c
                    obtain ⟨la, vs, rfl, k1, k2, k3⟩ := obj_lst rs4 (RV.mono e4 _ _ (RV.mono e3 _ _ r2)) ex
                    obtain ⟨lb, us, rfl, m1, m2, m3⟩ := obj_lst rs4 (RV.mono e4 _ _ (RV.mono e3 _ _ (RV.mono e2 _ _ r1))) ey
                    refine ⟨la, lb, vs, us, i, j, rfl, rfl, k2, m2, fun z => c1 (nodup_ix_ rs4.nd k1 (by rw [z]; exact m1)), rfl, rfl, c2, c3, by rw [k3.length]; exact c4, by rw [k3.length, m3.length]; exact c5, ?_⟩
                    have ew := Ext.write (K := X.kw) (ws := vs.take i.toNat ++ us ++ vs.drop j.toNat) k2 (List.mem_of_getElem? k1)
                    exact h5 _ _ _ ew (rs4.write k1 k2 (((k3.take _).append m3).append (k3.drop _))) (((rl2.mono e3).mono e4).mono ew)
                  · cases hs
                · cases hs
              · cases hs
          | _ => exact h4.elim
      | _ => exact h3.elim
  · cases h
/-! exceptions -/
theorem t_raise {n : Str} : SS T cf k N (.raise n) := by
  intro X sc W s g hW h
  simp only [ckS] at h
  split at h
  · rename_i x p1 m j p2 p3 p4
    obtain ⟨h, h3⟩ := and2 h
    obtain ⟨h1, h2⟩ := and2 h
    cases of_decide_eq_true h1
    obtain ⟨g1, g2, _⟩ := g.g.gl h3
    obtain ⟨C, E⟩ := g.g.exc n h2
    obtain ⟨B, newId, initId, bmB, F, q⟩ := E.base
    refine ps_wk (ps_raise g.g.calm g.g.tk (pmk_own F q E.mg_ E.keep (raises_own E.sub E.ty) g1 g2)) fun D σ H ⟨ρ, l, s, rs, rl, hp⟩ => ?_
    obtain ⟨n', C', e1, e2, e3⟩ := hp ρ H .refl rs
    cases e1
    rw [E.mg_] at e2
    cases e2
    exact e3
  · cases h
theorem t_try {b : Sm} {cls : Str} {i : Nat} {n : Str} {h : Hs} (hb : SL T cf k N b) : SS T cf k N (.try_ b cls i n h) := by
  intro X sc W s g hW h'
  simp only [ckS] at h'
  split at h'
  · rename_i body x p1 e b0 suite p2 p3
    obtain ⟨h', h8⟩ := and2 h'
    obtain ⟨h', h7⟩ := and2 h'
    obtain ⟨h', h6⟩ := and2 h'
    obtain ⟨h', h5⟩ := and2 h'
    obtain ⟨h', h4⟩ := and2 h'
    obtain ⟨h', h3⟩ := and2 h'
    obtain ⟨h1, h2⟩ := and2 h'
    cases of_decide_eq_true h1
    obtain ⟨g1, g2, _⟩ := g.g.gl h2
    obtain ⟨C, D', e1, e2, e3, E⟩ := g.g.exm n cls h6
    have hl : sc.names.lookup e = some .local := of_decide_eq_true h4
    refine ps_wk (ps_try_as (i := i) (tb := fun W' => tSs X.kw (wS X.mg W') (sden cf T.gc b)) (ts := fun a cl d => fun D σ H => cl = .ref C ∧ d = none ∧ tHs X.kw a i _ D σ H)
      g.stk g.frm (by rw [g.g.nm]; exact g.g.nd) (by rw [g.g.nm]; exact of_decide_eq_true h3) (by show X.env.scope.names.lookup e = _; rw [g.g.sc]; exact hl) ⟨g1, g2, .inl e2⟩ g.g.tk
      (fun W' pn xe tk po => hb (X.tr pn xe) sc W' body ⟨⟨tk, g.g.exc, g.g.exm, g.g.isx, g.g.nm, g.g.nd, g.g.sc, g.g.calm, g.g.room, g.g.blt, g.g.con, g.g.kds, g.g.fns⟩, g.st, po, g.kind, g.stk, g.frm⟩ (.inr h5) h7)
      (fun a oe cl d pn hz hf => ⟨fun pins s σ H D I q => by
        obtain ⟨rfl, rfl, q⟩ := q
        exact (hs_ok (a := a) (pn := pn) g.g g.st E hz hf _ _ h8).run pins s σ H D I q⟩)) fun D σ H ⟨ρ, l, s, rs, rl, hp⟩ => ⟨ρ, l, s, rs, rl, ?_⟩
    have hp : PostS X.kw (wS X.mg W σ) ρ H D (match sden cf T.gc b l s with
      | .ex (.str m) s1 => if m = n ∧ i < l.length then .ok (.nx, (h.run (l.set i none)).set i none) s1 else .no
      | .ex _ _ => .no
      | r => r) := hp
    cases hr : sden cf T.gc b l s with
    | no => rw [hr] at hp; exact hp.elim
    | ok a s1 =>
      rw [hr] at hp
      obtain ⟨fl, l1⟩ := a
      cases fl <;> exact hp
    | ex y s1 =>
      rw [hr] at hp
      cases y with
      | str m =>
        have hp : PostS X.kw (wS X.mg W σ) ρ H D (if m = n ∧ i < l.length then .ok (.nx, (h.run (l.set i none)).set i none) s1 else .no) := hp
        obtain ⟨⟨hm, hil⟩, hq⟩ := posts_ite hp
        subst hm
        intro ρ' H' ex rs'
        refine ⟨m, C, rfl, e1, true, e3, fun _ a ha => ⟨rfl, rfl, ?_, fun H2 g2 => ?_⟩, fun z => by cases z⟩
        · rw [List.getElem?_set_self (by rw [← rl.len]; exact hil)]
        · have ex2 := ex.trans (g2.1 ρ')
          exact hq ρ' H2 _ ex2 (g2.2 ρ' _ rs') (RL.unk (RL.runS _ (RL.unk (rl.mono ex2))))
      | _ => exact hp.elim
  · cases h'
theorem no_s {t : Sm} (h : ∀ (sc : Scope) (e : Stmt), (ckS T N t).s sc e = false) : SS T cf k N t := fun X sc W e g hW q => by rw [h] at q; cases q
theorem no_sl {t : Sm} (h : ∀ (sc : Scope) (e : List Stmt), (ckS T N t).l sc e = false) : SL T cf k N t := fun X sc W e g hW q => by rw [h] at q; cases q
/-- ALL STATEMENTS -/
theorem snd_st (t : Sm) : SS T cf k N t ∧ SL T cf k N t := by
  induction t with
  | nil => exact ⟨no_s fun _ _ => rfl, t_nil⟩
  | cons a b ha hb => exact ⟨no_s fun _ _ => rfl, t_cons ha.1 hb.2⟩
  | ex e => exact ⟨t_ex, no_sl fun _ _ => rfl⟩
  | set tg e => exact ⟨t_set, no_sl fun _ _ => rfl⟩
  | setI o i e => exact ⟨t_setI, no_sl fun _ _ => rfl⟩
  | aug i o e => exact ⟨t_aug, no_sl fun _ _ => rfl⟩
  | ret e => exact ⟨t_ret, no_sl fun _ _ => rfl⟩
  | retN => exact ⟨t_retN, no_sl fun _ _ => rfl⟩
  | ifs c a b ha hb => exact ⟨t_ifs ha.2 hb.2, no_sl fun _ _ => rfl⟩
  | for_ tg it b hb => exact ⟨t_for hb.2, no_sl fun _ _ => rfl⟩
  | wh c b hb => exact ⟨t_wh hb.2, no_sl fun _ _ => rfl⟩
  | brk => exact ⟨t_brk, no_sl fun _ _ => rfl⟩
  | cnt => exact ⟨t_cnt, no_sl fun _ _ => rfl⟩
  | pass => exact ⟨t_pass, no_sl fun _ _ => rfl⟩
  | any => exact ⟨t_any, no_sl fun _ _ => rfl⟩
  | raise n => exact ⟨t_raise, no_sl fun _ _ => rfl⟩
  | try_ b cls i n h hb => exact ⟨t_try hb.2, no_sl fun _ _ => rfl⟩
  | setSl o lo hi e => exact ⟨t_setSl, no_sl fun _ _ => rfl⟩
end
end Nv

set_option Elab.async false
set_option linter.all false
set_option maxRecDepth 100000
set_option autoImplicit false
set_option maxHeartbeats 4000000
/-! NvFn: functions, the law. -/
namespace Nv
open PySem PySem.Spec PyProof.Rows L2
section
variable {K : Kw} {ρ : List Addr} {H : Hp} {b : Nat}
theorem take_get {l : List Addr} {i : Nat} {a : Addr} (h : l[i]? = some a) (hi : i < b) : (l.take b)[i]? = some a := by rw [List.getElem?_take_of_lt hi]; exact h
mutual
theorem RV.narrow : ∀ (d : Nv.D) (v : V), RV K ρ H d v → d.lt b = true → RV K (ρ.take b) H d v
  | .non, _, h, _ => by unfold RV at *; exact h
  | .bl _, _, h, _ => by unfold RV at *; exact h
  | .int _, _, h, _ => by unfold RV at *; exact h
  | .str _, _, h, _ => by unfold RV at *; exact h
  | .tup ds, _, h, q => by
    unfold RV at *
    obtain ⟨a, vs, e1, e2, e3⟩ := h
    exact ⟨a, vs, e1, e2, RVs.narrow ds vs e3 (by unfold D.lt at q; exact q)⟩
  | .lf ds, _, h, q => by
    unfold RV at *
    obtain ⟨a, vs, e1, e2, e3⟩ := h
    exact ⟨a, vs, e1, e2, RVs.narrow ds vs e3 (by unfold D.lt at q; exact q)⟩
  | .ld ks ds, _, h, q => by
    unfold RV at *
    obtain ⟨a, o, vs, e1, e2, e3, e4⟩ := h
    exact ⟨a, o, vs, e1, e2, e3, RVs.narrow ds _ e4 (by unfold D.lt at q; exact (and2 q).2)⟩
  | .obj i, _, h, q => by
    unfold RV at *
    obtain ⟨a, e1, e2⟩ := h
    exact ⟨a, e1, take_get e2 (by unfold D.lt at q; exact of_decide_eq_true q)⟩
theorem RVs.narrow : ∀ (ds : List Nv.D) (vs : List V), RVs K ρ H ds vs → D.ltAll b ds = true → RVs K (ρ.take b) H ds vs
  | [], _, h, _ => by unfold RVs at *; exact h
  | d :: ds, _, h, q => by
    unfold RVs at *
    obtain ⟨v, r, e1, e2, e3⟩ := h
    unfold D.ltAll at q
    obtain ⟨q1, q2⟩ := and2 q
    exact ⟨v, r, e1, RV.narrow d v e2 q1, RVs.narrow ds r e3 q2⟩
end
theorem ROb.narrow {a : Addr} {o : Ob} (h : ROb K ρ H a o) (q : o.lt b = true) : ROb K (ρ.take b) H a o := by
  cases o with
  | lst xs => obtain ⟨vs, h1, h2⟩ := h; exact ⟨vs, h1, RVs.narrow xs vs h2 q⟩
  | dct kvs =>
    rcases h with ⟨vs, h1, h2, h3⟩ | ⟨xs, vs, h⟩
    · exact .inl ⟨vs, h1, h2, RVs.narrow _ _ h3 (and2 q).2⟩
    · exact .inr ⟨xs, vs, h.at_, h.ne, h.few, h.sys, h.nd, h.ks, RVs.narrow _ _ h.rk (and2 q).1, h.vl, RVs.narrow _ _ h.rv (and2 q).2⟩
theorem RS.narrow {s : Sto} (h : RS K ρ H s) (q : (s.take b).all (Ob.lt b) = true) : RS K (ρ.take b) H (s.take b) := by
  refine ⟨by rw [List.length_take, List.length_take, h.len], h.nd.sublist (List.take_sublist _ _), fun i o a h1 h2 => ?_⟩
  have hm : o ∈ s.take b := List.mem_of_getElem? h1
  have hi : i < b := by
    have := (List.getElem?_eq_some_iff.mp h1).1
    rw [List.length_take] at this
    omega
  rw [List.getElem?_take_of_lt hi] at h1 h2
  exact (h.ob i o a h1 h2).narrow (List.all_eq_true.mp q o hm)
theorem Ext.narrow {ρ0 : List Addr} {H0 : Hp} (e : Ext K ρ0 H0 ρ H) (hb : ρ0.length = b) : Ext K ρ0 H0 (ρ.take b) H where
  pre := fun i a h => take_get (e.pre i a h) (by rw [← hb]; exact (List.getElem?_eq_some_iff.mp h).1)
  tup := e.tup
  fz := e.fz
  oth := e.oth
  new := fun a h => e.new a (List.mem_of_mem_take h)
  bk := e.bk
/-- what a call leaves -/
theorem fin_ok {W : Wx} {ρ0 : List Addr} {H0 : Hp} {s : Sto} {r : RD} {v : V} {Q : VK} (hb : ρ0.length = b) (e : Ext K ρ0 H0 ρ H) (rs : RS K ρ H s) (rr : RR K H0 ρ H r v) (h : Post K W (rRR K) ρ0 H0 Q (fin b r s)) : Q v H := by
  unfold fin at h
  split at h
  · rename_i c1
    have rn := rs.narrow c1
    split at h
    · rename_i xs
      split at h
      · rename_i c2
        obtain ⟨a, vs, e1, e2, e3, e4, e5⟩ := rr
        exact h (ρ.take b) H v (e.narrow hb) rn ⟨a, vs, e1, e2, RVs.narrow xs vs e3 c2, fun z => e4 (List.mem_of_mem_take z), e5⟩
      · exact h ρ H v e rs rr
    · rename_i kvs
      split at h
      · rename_i c2
        obtain ⟨a, e1, e2, e4, e5⟩ := rr
        exact h (ρ.take b) H v (e.narrow hb) rn ⟨a, e1, e2.narrow c2, fun z => e4 (List.mem_of_mem_take z), e5⟩
      · exact h ρ H v e rs rr
    · rename_i d
      have r : RV K ρ H d v := rr
      split at h
      · rename_i c2
        exact h (ρ.take b) H v (e.narrow hb) rn (RV.narrow d v r c2)
      · rename_i c2
        split at h
        · rename_i i
          have hge : b ≤ i := by
            have : ¬ i < b := fun z => c2 (by unfold D.lt; exact decide_eq_true z)
            omega
          unfold RV at r
          obtain ⟨a, rfl, ha⟩ := r
          have hlen : b ≤ ρ.length := by
            have := (List.getElem?_eq_some_iff.mp ha).1
            omega
          have htl : (ρ.take b).length = b := by rw [List.length_take]; omega
          have hna : a ∉ ρ.take b := fun z => by
            obtain ⟨j, hj⟩ := List.mem_iff_getElem?.mp z
            have hjb : j < b := by
              have := (List.getElem?_eq_some_iff.mp hj).1
              omega
            rw [List.getElem?_take_of_lt hjb] at hj
            have := nodup_ix_ rs.nd hj ha
            omega
          have ha0 : H0 a = none := by
            rcases e.new a (List.mem_of_getElem? ha) with z | z
            · obtain ⟨j, hj⟩ := List.mem_iff_getElem?.mp z
              have hjb : j < b := by
                have := (List.getElem?_eq_some_iff.mp hj).1
                omega
              have := nodup_ix_ rs.nd (e.pre j a hj) ha
              omega
            · exact z
          split at h
          · rename_i xs ho
            split at h
            · rename_i c3
              obtain ⟨vs, q1, q2⟩ := rs.ob i _ a ho ha
              exact h (ρ.take b) H _ (e.narrow hb) rn ⟨a, vs, rfl, q1, RVs.narrow xs vs q2 c3, hna, ha0⟩
            · exact h ρ H _ e rs rr
          · rename_i kvs ho
            split at h
            · rename_i c3
              exact h (ρ.take b) H _ (e.narrow hb) rn ⟨a, rfl, (rs.ob i _ a ho ha).narrow (b := b) c3, hna, ha0⟩
            · exact h ρ H _ e rs rr
          · exact h ρ H _ e rs rr
        · exact h ρ H v e rs rr
  · exact h ρ H v e rs rr
end
/-- what stands of a function of the table behind the top -/
structure FnTop (K : PySem.W.Frag) (mg : Str → Option Value) (T : Tab) (F : Fn) : Prop where
  ex : ∃ (f : Addr) (fd : FuncData) (st : Stmt), mg F.name = some (.ref f) ∧ Fun K (T.dn F.name) (T.dn F.name) st f fd ∧ FnScope F.ns F.ps (defScope st) ∧ (∀ us : List Value, us.length = F.ps.length → bindArgs fd ⟨us, []⟩ = pure (F.ps.zip us)) ∧ (ckS T F.ns F.body).l (defScope st) (defBody st) = true
section
variable {P : Program} {w : World} {K : PySem.W.Frag} {mg : Str → Option Value} {base : Heap} {T : Tab}
theorem start_rl {ρ : List Addr} {H : Hp} {ds : List Nv.D} {vs : List V} {N : List Str} (r : RVs ⟨K, w⟩ ρ H ds vs) : RL ⟨K, w⟩ ρ H (L2.start N vs) (ds.map some ++ List.replicate (N.length - ds.length) none) := by
  have hl := r.length
  unfold L2.start
  refine ⟨by rw [List.length_append, List.length_append, List.length_map, List.length_map, List.length_replicate, List.length_replicate, hl], fun i d q => ?_⟩
  by_cases hi : i < ds.length
  · rw [List.getElem?_append_left (by rw [List.length_map]; exact hi), List.getElem?_map] at q
    obtain ⟨x, h1, h2⟩ := Option.map_eq_some_iff.mp q
    cases h2
    obtain ⟨v, h3, h4⟩ := r.get h1
    exact ⟨v, by rw [List.getElem?_append_left (by rw [List.length_map, hl]; exact hi), List.getElem?_map, h3]; rfl, h4⟩
  · rw [List.getElem?_append_right (by rw [List.length_map]; omega), List.getElem?_replicate] at q
    split at q <;> cases q
theorem stores_fn {N : List Str} {qual : Str} {sc : Scope} {f : Addr} {cd : Value} {A : Around} {outer : List Env} {s : Shared} {H : Hp} {E : XK} : Stores sc (cxOf (L2.CX P w) P w K mg base N qual sc f cd A outer s H E) := by
  intro x hx
  unfold locB at hx
  split at hx
  · rename_i q; exact ⟨.inl q, .inl rfl⟩
  · rename_i q; exact ⟨.inr q, .inl rfl⟩
  · cases hx
/-- what stands of a table's names behind the top -/
structure TopOk (K : PySem.W.Frag) (w : World) (mg : Str → Option Value) (T : Tab) : Prop where
  hb : ∀ x : Str, T.blts.contains x = true → mg x = none
  hc : ∀ (j : Nat) (x : Str) (d : Nv.D), T.cons[j]? = some (x, d) → ∃ u v, mg x = some u ∧ RelV v u ∧ ∀ (w : World) ρ H, RV ⟨K, w⟩ ρ H d v
  exc : ∀ n : Str, T.excs.contains n = true → ∃ C, ExcF K mg n C
  exm : ∀ n x : Str, T.exm.contains (n, x) = true → ∃ C D, mg n = some (.ref C) ∧ mg x = some (.ref D) ∧ PySem.W.exmOne K (.ref C) (.ref D) = some true ∧ ExcF K mg n C
  isx : ∀ (n x : Str) (b : Bool), T.isx.contains (n, x, b) = true → IsF K mg n x b
  kds : ∀ (j : Nat) (x : Str) (kvs : List (Str × Int)), T.kds[j]? = some (x, kvs) → KdF K w mg x kvs
/-- a body by the interpreter's run -/
theorem fn_body {n i : Nat} {F : Fn} {st : Stmt} {dn : Str} {f : Addr} {cdv : Value} {A : Around} {outer : List Env} {s : Shared} {H : Hp} {vs : List V} {Q : VK} {E : XK}
    (ih : ∀ (i : Nat) (F : Fn), T.fns[i]? = some F → ∃ f fd, mg F.name = some (.ref f) ∧ PySem.W.keepIn K (.ref f) = true ∧ Binds K fd F.ps [] ∧ FnOk P w K mg base (L2.CX P w) n f fd F.ps (spOf ⟨K, w⟩ mg (callN T n i)))
    (O : TopOk K w mg T)
    (h3 : FnScope F.ns F.ps (defScope st)) (h5 : (ckS T F.ns F.body).l (defScope st) (defBody st) = true) (h : T.fns[i]? = some F) (hr : Room n (A.deeper (envOfC dn (defScope st) s.heap.objs.size f cdv))) (q : spOf ⟨K, w⟩ mg (callN T (n + 1) i) vs H Q E) :
    ∃ t, PSs (cxOf (L2.CX P w) P w K mg base F.ns dn (defScope st) f cdv A outer s H E) (defBody st) t ∧ t { nx := fun _ H' => Q .non H', rt := Q } (L2.start F.ns vs) H := by
  obtain ⟨ρ, st', ds, rs, rv, hp⟩ := q
  have e : callN T (n + 1) i ds st' = runFn (callN T n) T.gc F ds st' := by unfold callN; rw [h]
  rw [e] at hp
  unfold runFn at hp
  obtain ⟨hl, hp⟩ := post_ite hp
  have good : GoodS T (callN T n) n F.ns (defScope st) (cxOf (L2.CX P w) P w K mg base F.ns dn (defScope st) f cdv A outer s H E) (fun cls d _ H => E cls d H) :=
    ⟨⟨takes_of rfl rfl rfl rfl, O.exc, O.exm, O.isx, rfl, h3.nd, rfl, rfl, hr, O.hb, fun j x d h => (O.hc j x d h).imp fun u hu => hu.imp fun v hv => ⟨hv.1, hv.2.1, hv.2.2 w⟩, O.kds, ih⟩, stores_fn, passes_of rfl, h3.kind, rfl, rfl⟩
  refine ⟨_, (snd_st F.body).2 _ _ _ _ good (.inl fun _ _ _ _ _ h => h) h5, ρ, _, st', rs, start_rl rv, ?_⟩
  cases hrun : sden (callN T n) T.gc F.body (ds.map some ++ List.replicate (F.ns.length - ds.length) none) st' with
  | no => rw [hrun] at hp; exact hp
  | ex x s1 => rw [hrun] at hp; exact hp
  | ok a s1 =>
    rw [hrun] at hp
    obtain ⟨fl, l⟩ := a
    cases fl with
    | nx => exact fun ρ' H' σ' ex rs' rl' => fin_ok rs.len ex rs' (r := .d .non) (show RV ⟨K, w⟩ ρ' H' Nv.D.non .non from rv_non.mpr rfl) hp
    | rt d => exact fun ρ' H' v ex rs' rv' => fin_ok rs.len ex rs' rv' hp
    | bk => exact hp.elim
    | ct => exact hp.elim
/-- ALL FUNCTIONS, at every depth of calls -/
theorem fns_ok (hE : ∀ (i : Nat) (F : Fn), T.fns[i]? = some F → FnTop K mg T F) (O : TopOk K w mg T) :
    ∀ (n i : Nat) (F : Fn), T.fns[i]? = some F → ∃ f fd, mg F.name = some (.ref f) ∧ PySem.W.keepIn K (.ref f) = true ∧ Binds K fd F.ps [] ∧ FnOk P w K mg base (L2.CX P w) n f fd F.ps (spOf ⟨K, w⟩ mg (callN T n i))
  | 0, i, F, h => by
    obtain ⟨f, fd, st, h1, h2, h3, h4, h5⟩ := (hE i F h).ex
    have no : ∀ vs H Q E, ¬ spOf ⟨K, w⟩ mg (callN T 0 i) vs H Q E := fun vs H Q E h => by
      obtain ⟨_, _, _, _, _, q⟩ := h
      exact q
    exact ⟨f, fd, h1, h2.kp, .all h4, ⟨fun vs H Q E h => absurd h (no vs H Q E), fun A outer s H args us vs Q E _ _ _ _ h => absurd h (no vs H Q E)⟩⟩
  | n + 1, i, F, h => by
    have ih := fns_ok hE O n
    obtain ⟨f, fd, st, h1, h2, h3, h4, h5⟩ := (hE i F h).ex
    refine ⟨f, fd, h1, h2.kp, .all h4, h2.okX h3 (fun vs H Q E q => ?_) fun cdv A outer s H vs Q E hr q => ?_⟩
    · obtain ⟨ρ, st', ds, rs, rv, hp⟩ := q
      have e : callN T (n + 1) i ds st' = runFn (callN T n) T.gc F ds st' := by unfold callN; rw [h]
      rw [e] at hp
      unfold runFn at hp
      rw [rv.length]
      exact (post_ite hp).1
    · exact fn_body (fun i F h => ih i F h) O h3 h5 h hr q
/-- what law(script) promises -/
def spLaw (K : PySem.W.Frag) : Sp := fun vs H Q _ => ∃ (a : Addr) (ns : List Int), vs = [.ref a] ∧ SqF K H a (ns.map V.int) ∧ ns.length ≤ 63 ∧ ∀ H', Q (.bl true) H'
theorem rvs_ints {ρ : List Addr} {H : Hp} : ∀ ns : List Int, RVs ⟨K, w⟩ ρ H (ns.map Nv.D.int) (ns.map V.int)
  | [] => .nil_
  | n :: r => .cons_ (rv_int.mpr rfl) (rvs_ints r)
theorem law_ok {n i : Nat} {f : Addr} {fd : FuncData} {x : Str} (h : FnOk P w K mg base (L2.CX P w) n f fd [x] (spOf ⟨K, w⟩ mg (callN T n i))) (hlaw : ∀ ns : List Int, ns.length ≤ 63 → ∃ s, callN T n i [.lf (ns.map Nv.D.int)] [] = .ok (.d (.bl true)) s) :
    FnOk P w K mg base (L2.CX P w) n f fd [x] (spLaw K) := h.imp fun vs H Q E ⟨a, ns, e, hS, hl, q⟩ => by
  subst e
  obtain ⟨s, hs⟩ := hlaw ns hl
  refine ⟨[], [], [.lf (ns.map Nv.D.int)], ⟨rfl, List.nodup_nil, fun i o a h1 h2 => by simp at h1⟩, .one ?_, ?_⟩
  · unfold RV
    exact ⟨a, _, rfl, hS, rvs_ints ns⟩
  · rw [hs]
    intro ρ' H' v ex rs rv
    have rv : RV ⟨K, w⟩ ρ' H' (Nv.D.bl true) v := rv
    rw [rv_bl.mp rv]
    exact q H'
theorem sqf_only {H : Hp} {a : Addr} {xs : List V} (hO : Only H) (h : SqL K H a xs) : SqF K H a xs := by
  rcases h with (h | ⟨o, h⟩) | h
  · rcases hO a with z | ⟨o, ys, z⟩
    · rw [h] at z; cases z
    · rw [h] at z; cases z
  · exact .inl ⟨o, h⟩
  · exact .inr h
end
/-! ### the end: from the facts of the head -/
theorem fn_top {K : PySem.W.Frag} {h : Heap} {mg : Str → Option Value} {T : Tab} {F : Fn} (X : K.In h) (G : h.Ns mainGlobals mg) {f : Addr} {st : Stmt} {od an : Option Addr} {sl : Array (Option Value)} {oc kV dc pm cd ct : Value}
    {nm : Str} (hn : T.dn F.name = nm) (a : PySem.W.nsIn K mainGlobals F.name = some (some (.ref f))) (l : K.lookup f = some ⟨oc, od, .func (PySem.W.fnOf nm nm (defArgs st) (defBody st) (defScope st) .none kV dc pm an cd ct), sl⟩) (c : PySem.W.codeIn K cd nm = true) (k : PySem.W.keepIn K (.ref f) = true)
    (S : FnScope F.ns F.ps (defScope st)) (hb : ∀ (kV doc pm : Value) (an : Option Addr) (cdv ct : Value) (us : List Value), us.length = F.ps.length → bindArgs (PySem.W.fnOf nm nm (defArgs st) (defBody st) (defScope st) .none kV doc pm an cdv ct) ⟨us, []⟩ = pure (F.ps.zip us))
    (hc : (ckS T F.ns F.body).l (defScope st) (defBody st) = true) : FnTop K mg T F := by
  subst hn
  have Fu := fun_mk l c k
  exact ⟨⟨f, _, st, PySem.W.mg_of X G a, Fu, S, fun us hl => hb kV dc pm an cd ct us hl, hc⟩⟩
theorem scope_of {N P : List Str} {sc : Scope} (h1 : sc.kind = .function) (h2 : sc.isCoroutine = false) (h3 : sc.isGenerator = false) (h4 : N.Nodup) (h5 : N.take P.length = P) (h6 : ∀ x ∈ P, sc.names.lookup x = some .local ∨ sc.names.lookup x = some .cell) (h7 : ∀ y ∈ sc.names, y.2 ≠ .free) : FnScope N P sc := ⟨h1, h2, h3, h4, h5, h6, h7⟩
/-- a constant of the top: a text, a tuple of such .. -/
theorem con_str {K : PySem.W.Frag} {h : Heap} {mg : Str → Option Value} (X : K.In h) (G : h.Ns mainGlobals mg) {x z : Str} {t : Tok} (a : PySem.W.nsIn K mainGlobals x = some (some (.str z t))) : ∃ u v, mg x = some u ∧ RelV v u ∧ ∀ (w : World) ρ H, RV ⟨K, w⟩ ρ H (.str z) v :=
  ⟨_, .str z, PySem.W.mg_of X G a, ⟨t, rfl⟩, fun _ ρ H => rv_str.mpr rfl⟩
theorem con_int {K : PySem.W.Frag} {h : Heap} {mg : Str → Option Value} (X : K.In h) (G : h.Ns mainGlobals mg) {x : Str} {z : Int} {t : Tok} (a : PySem.W.nsIn K mainGlobals x = some (some (.int z t))) : ∃ u v, mg x = some u ∧ RelV v u ∧ ∀ (w : World) ρ H, RV ⟨K, w⟩ ρ H (.int z) v :=
  ⟨_, .int z, PySem.W.mg_of X G a, ⟨t, rfl⟩, fun _ ρ H => rv_int.mpr rfl⟩
theorem con_strs {K : PySem.W.Frag} {h : Heap} {mg : Str → Option Value} (X : K.In h) (G : h.Ns mainGlobals mg) {x : Str} {a : Addr} {o : Obj} {its : Array Value} {n : Nat} {zs : List Str} (g : PySem.W.nsIn K mainGlobals x = some (some (.ref a))) (t : K.lookup a = some o) (hc : o.cls = .type "tuple") (hd : o.data = .seq its n)
    (hz : its.size ≤ sizeLine) (hv : Vals (zs.map V.str) its.toList) : ∃ u v, mg x = some u ∧ RelV v u ∧ ∀ (w : World) ρ H, RV ⟨K, w⟩ ρ H (.tup (zs.map D.str)) v :=
  ⟨_, .ref a, PySem.W.mg_of X G g, rfl, fun _ ρ H => by
    unfold RV
    exact ⟨a, zs.map V.str, rfl, .inr ⟨o, its, n, t, hc, hd, hz, hv⟩, rvs_str zs⟩⟩
def keyStr (e : DictEntry) : Option Str := match e.key with
  | .str x _ => some x
  | _ => none
theorem keys_miss {z : Str} : ∀ {es : List DictEntry} {ks : List Str}, es.map keyStr = ks.map some → z ∉ ks → es.find? (·.key.isStr z) = none ∧ es.any (·.refKey) = false
  | [], _, _, _ => ⟨rfl, rfl⟩
  | e :: r, [], h, _ => by cases h
  | e :: r, k :: ks, h, hz => by
    rw [List.map_cons, List.map_cons] at h
    injection h with h1 h2
    obtain ⟨i1, i2⟩ := keys_miss h2 fun q => hz (.tail _ q)
    have ne : z ≠ k := fun q => hz (by rw [q]; exact .head _)
    unfold keyStr at h1
    split at h1
    · rename_i x t q
      cases h1
      refine ⟨?_, ?_⟩
      · rw [List.find?_cons, i1]
        have : e.key.isStr z = false := by
          rw [q]
          show (k == z) = false
          simp [Ne.symm ne]
        rw [this]
      · rw [List.any_cons, i2]
        unfold DictEntry.refKey
        rw [q]; rfl
    · cases h1
/-- a dict of the top, by what its entries are -/
theorem kd_mk {K : PySem.W.Frag} {w : World} {h : Heap} {mg : Str → Option Value} (X : K.In h) (G : h.Ns mainGlobals mg) {x : Str} {d : Addr} {es : Array DictEntry} {n : Nat} {kvs : List (Str × Int)} (a : PySem.W.nsIn K mainGlobals x = some (some (.ref d)))
    (l : K.lookup d = some ⟨.type "dict", none, .dict es n, #[]⟩) (q : PySem.W.KeysLit w.params es.toList) (low : (d == sysModules) = false) (ks : es.toList.map keyStr = (kvs.map (·.1)).map some)
    (vs : ∀ p ∈ kvs, ∃ t, PySem.W.nsIn K d p.1 = some (some (.int p.2 t))) : KdF K w mg x kvs :=
  ⟨d, es, n, PySem.W.mg_of X G a, ⟨l, q, low⟩, fun z => by
    cases e : kvs.lookup z with
    | some i =>
      have m : (z, i) ∈ kvs := by
        clear vs ks
        induction kvs with
        | nil => cases e
        | cons p r ih =>
          obtain ⟨k, v⟩ := p
          rw [List.lookup_cons] at e
          split at e
          · rename_i hz
            cases e
            rw [beq_iff_eq.mp hz]
            exact .head _
          · exact .tail _ (ih e)
      exact vs _ m
    | none =>
      have m : z ∉ kvs.map (·.1) := by
        clear vs ks
        induction kvs with
        | nil => simp
        | cons p r ih =>
          obtain ⟨k, v⟩ := p
          rw [List.lookup_cons] at e
          split at e
          · cases e
          · rename_i hz
            rw [List.map_cons, List.mem_cons, not_or]
            exact ⟨fun y => by rw [y] at hz; simp at hz, ih e⟩
      obtain ⟨i1, i2⟩ := keys_miss ks m
      show PySem.W.nsIn K d z = some none
      unfold PySem.W.nsIn
      rw [l]
      simp only
      rw [i1]
      simp only
      rw [i2]
      rfl⟩
/-- the facts of a law's text: its functions, the built-ins that no name hides, its constants -/
structure Facts (K : PySem.W.Frag) (w : World) (mg : Str → Option Value) (T : Tab) : Prop where
  fns : ∀ F, F ∈ T.fns → FnTop K mg T F
  blt : ∀ x, x ∈ T.blts → mg x = none
  con : ∀ p, p ∈ T.cons → ∃ u v, mg p.1 = some u ∧ RelV v u ∧ ∀ (w : World) ρ H, RV ⟨K, w⟩ ρ H p.2 v
  exc : ∀ n, n ∈ T.excs → ∃ C, ExcF K mg n C
  exm : ∀ p, p ∈ T.exm → ∃ C D, mg p.1 = some (.ref C) ∧ mg p.2 = some (.ref D) ∧ PySem.W.exmOne K (.ref C) (.ref D) = some true ∧ ExcF K mg p.1 C
  isx : ∀ p, p ∈ T.isx → IsF K mg p.1 p.2.1 p.2.2
  kds : ∀ p, p ∈ T.kds → KdF K w mg p.1 p.2
theorem Facts.top {K : PySem.W.Frag} {w : World} {mg : Str → Option Value} {T : Tab} (E : Facts K w mg T) : TopOk K w mg T :=
  ⟨fun x h => E.blt x (by simpa using h), fun j x d h => E.con (x, d) (List.mem_of_getElem? h), fun n h => E.exc n (by simpa using h), fun n x h => E.exm (n, x) (by simpa using h), fun n x b h => E.isx (n, x, b) (by simpa using h), fun j x kvs h => E.kds (x, kvs) (List.mem_of_getElem? h)⟩
/-- a law lets nothing out -/
theorem cx_no {P : Program} {w : World} {H : Hp} {s : Shared} {e : Value} {s' : Shared} (h : L2.CX P w [] H s (fun _ _ _ => False) e s') : False := by
  obtain ⟨_, _, _, _, _, _, _, _, _, _, _, _, z⟩ := h
  exact z
/-- the facts of a class of exceptions, a ValueError's -/
theorem exc_mk {K : PySem.W.Frag} {h : Heap} {mg : Str → Option Value} (X : K.In h) (G : h.Ns mainGlobals mg) {n : Str} {C : Addr} (a : PySem.W.nsIn K mainGlobals n = some (some (.ref C))) (k : PySem.W.keepIn K (.ref C) = true)
    (q : PySem.W.excIn K C [.type "ValueError", .type "Exception", .type "BaseException", .type "object"] "ValueError.__new__" = true) (b1 : PySem.W.subIn K (.ref C) (.type "BaseException") = some true) (b2 : PySem.W.typeIn K (.ref C) = some (.type "type"))
    (c1 : PySem.W.findIn K (.ref C) "__getattribute__" = some (some (.builtin "BaseException.__getattribute__"))) (c2 : PySem.W.findIn K (.ref C) "__getattr__" = some none) (c3 : PySem.W.hasDictIn K C = true)
    (c4 : PySem.W.findIn K (.ref C) "__class__" = some (some (.builtin "object.__class__"))) (c5 : PySem.W.specialIn K (.builtin "object.__class__") "__get__" = some (some (.builtin "getset_descriptor.__get__"))) (c6 : PySem.W.takesIn K (.builtin "object.__class__") = some true) (c7 : PySem.W.mroIn K C (.type "object") = some true) : ExcF K mg n C :=
  ⟨PySem.W.mg_of X G a, k, ⟨_, _, _, _, PySem.F.excBase_ValueError, q⟩, b1, b2, ⟨c1, c2, b1, c3, c4, c5, c6, c7⟩⟩
theorem exm_mk {K : PySem.W.Frag} {h : Heap} {mg : Str → Option Value} (X : K.In h) (G : h.Ns mainGlobals mg) {n x : Str} {C D : Addr} (E : ExcF K mg n C) (a : PySem.W.nsIn K mainGlobals x = some (some (.ref D)))
    (b1 : PySem.W.subIn K (.ref D) (.type "BaseException") = some true) (b2 : PySem.W.hasDictIn K D = true) (b3 : PySem.W.typeIn K (.ref D) = some (.type "type")) (b4 : PySem.W.subIn K (.ref C) (.ref D) = some true) :
    ∃ C D, mg n = some (.ref C) ∧ mg x = some (.ref D) ∧ PySem.W.exmOne K (.ref C) (.ref D) = some true ∧ ExcF K mg n C :=
  ⟨C, D, E.mg_, PySem.W.mg_of X G a, PySem.W.exm_ref b1 b2 b3 b4, E⟩
theorem rel_ref {D : Addr} : RelV (.ref D) (.ref D) := rfl
theorem is_same {K : PySem.W.Frag} {mg : Str → Option Value} {n : Str} {C : Addr} (E : ExcF K mg n C) : IsF K mg n n true :=
  ⟨C, .ref C, .ref C, E.mg_, rfl, fun u r => r, .inl E.mg_, by unfold PySem.W.kitOne; rw [if_pos (by simp)]⟩
theorem is_own {K : PySem.W.Frag} {h : Heap} {mg : Str → Option Value} (X : K.In h) (G : h.Ns mainGlobals mg) {n x : Str} {C D : Addr} {b : Bool} (E : ExcF K mg n C) (a : PySem.W.nsIn K mainGlobals x = some (some (.ref D)))
    (ne : (Value.ref C == Value.ref D) = false) (b2 : PySem.W.hasDictIn K D = true) (b3 : PySem.W.typeIn K (.ref D) = some (.type "type")) (b4 : PySem.W.subIn K (.ref C) (.ref D) = some b) : IsF K mg n x b :=
  ⟨C, .ref D, .ref D, E.mg_, rfl, fun u r => r, .inl (PySem.W.mg_of X G a), by
    obtain ⟨cd, hc, _⟩ := PySem.W.any_some b2
    unfold PySem.W.kitOne PySem.W.kitCls
    rw [ne, if_neg Bool.false_ne_true]
    have e2 : ((PySem.W.clsIn K D).isSome && PySem.W.typeIn K (.ref D) == some (.type "type")) = true := by rw [hc, b3] <;> rfl
    show (if ((PySem.W.clsIn K D).isSome && PySem.W.typeIn K (.ref D) == some (.type "type")) = true then PySem.W.subIn K (.ref C) (.ref D) else none) = _
    rw [if_pos e2]
    exact b4⟩
theorem is_blt {K : PySem.W.Frag} {h : Heap} {mg : Str → Option Value} (X : K.In h) (G : h.Ns mainGlobals mg) {n x : Str} {C : Addr} {t : String} {b : Bool} (E : ExcF K mg n C) (a : PySem.W.nsIn K mainGlobals x = some none) (hv : bootBuiltins x = some (.type t)) (hn : x ≠ "__name__")
    (hk : PySem.W.kitMeta t = true) (b4 : PySem.W.subIn K (.ref C) (.type t) = some b) : IsF K mg n x b :=
  ⟨C, .type t, .ty t, E.mg_, rfl, fun u r => r, .inr ⟨PySem.W.mg_none_of X G a, hv, hn⟩, by
    unfold PySem.W.kitOne PySem.W.kitCls
    rw [if_neg (by simp)]
    show (if PySem.W.kitMeta t = true then _ else none) = _
    rw [if_pos hk]
    exact b4⟩
theorem Facts.levels {P : Program} {w : World} {K : PySem.W.Frag} {mg : Str → Option Value} {T : Tab} {base : Heap} (E : Facts K w mg T) (n i : Nat) (F : Fn) (h : T.fns[i]? = some F) :
    ∃ f fd, mg F.name = some (.ref f) ∧ PySem.W.keepIn K (.ref f) = true ∧ Binds K fd F.ps [] ∧ FnOk P w K mg base (L2.CX P w) n f fd F.ps (spOf ⟨K, w⟩ mg (callN T n i)) :=
  fns_ok (fun i F h => E.fns F (List.mem_of_getElem? h)) E.top n i F h
theorem law_end {P : Program} {w : World} {K : PySem.W.Frag} {mg : Str → Option Value} {T : Tab} {n i : Nat} {fa : Addr} {x nm : Str} {F : Fn} (E : Facts K w mg T) (hi : T.fns[i]? = some F) (hps : F.ps = [x]) (hnm : F.name = nm) (hfa : mg nm = some (.ref fa))
    (hlaw : ∀ ns : List Int, ns.length ≤ 63 → ∃ s, callN T (n + 1) i [.lf (ns.map Nv.D.int)] [] = .ok (.d (.bl true)) s) :
    ∃ fd : FuncData, (∀ (s : Shared) (v : Value), BindsTo s fd ⟨[v], []⟩ [(x, v)]) ∧ ∀ base : Heap, K.In base → base.Ns mainGlobals mg → FnOk P w K mg base (L2.CX P w) (n + 1) fa fd [x] (spLaw K) := by
  obtain ⟨f, fd, st, h1, h2, h3, h4, h5⟩ := (E.fns F (List.mem_of_getElem? hi)).ex
  rw [hnm, hfa] at h1
  cases h1
  have hbd : ∀ v : Value, bindArgs fd ⟨[v], []⟩ = pure [(x, v)] := fun v => by
    have := h4 [v] (by rw [hps]; rfl)
    rw [hps] at this
    exact this
  refine ⟨fd, fun s v => .of_eq (hbd v), fun base _ _ => law_ok (i := i) ?_ hlaw⟩
  rw [← hps]
  -- the same def at this depth
  refine h2.okX h3 (fun vs H Q E q => ?_) fun cdv A outer s H vs Q E' hr q => ?_
  · obtain ⟨ρ, st', ds, rs, rv, hp⟩ := q
    have e : callN T (n + 1) i ds st' = runFn (callN T n) T.gc F ds st' := by unfold callN; rw [hi]
    rw [e] at hp
    unfold runFn at hp
    rw [rv.length]
    exact (post_ite hp).1
  · exact fn_body (fun i F h => E.levels n i F h) E.top h3 h5 hi hr q
end Nv

set_option Elab.async false
set_option linter.all false
set_option maxRecDepth 100000
set_option autoImplicit false
/-! NvSim: the interpreter's steps as rules for simp: each thing by what comes behind it, so that simp goes on from the root. -/
namespace Nv
open PySem PySem.Spec PyProof.Rows L2
noncomputable section
variable {α β : Type}
def ev (cf : Nat → List D → Sto → Res RD) (g : Nat → Option D) (e : Ex) (l : Loc) (s : Sto) (k : RD → Sto → Res β) : Res β := ((den cf g e).r l s).bind k
def evv (cf : Nat → List D → Sto → Res RD) (g : Nat → Option D) (e : Ex) (l : Loc) (s : Sto) (k : D → Sto → Res β) : Res β := ((den cf g e).v l s).bind k
def evb (cf : Nat → List D → Sto → Res RD) (g : Nat → Option D) (e : Ex) (l : Loc) (s : Sto) (k : Bool → Sto → Res β) : Res β := ((den cf g e).b l s).bind k
def evi (cf : Nat → List D → Sto → Res RD) (g : Nat → Option D) (e : Ex) (l : Loc) (s : Sto) (k : Its → Sto → Res β) : Res β := ((den cf g e).i l s).bind k
def evs (cf : Nat → List D → Sto → Res RD) (g : Nat → Option D) (e : Ex) (l : Loc) (s : Sto) (k : List D → Sto → Res β) : Res β := ((den cf g e).vs l s).bind k
def evo (cf : Nat → List D → Sto → Res RD) (g : Nat → Option D) (e : Ex) (l : Loc) (s : Sto) (k : Option Int → Sto → Res β) : Res β := (optI e.isNil (den cf g e).r l s).bind k
def sk (cf : Nat → List D → Sto → Res RD) (g : Nat → Option D) (b : Sm) (l : Loc) (s : Sto) (k : Fl → Loc → Sto → Res β) : Res β := (sden cf g b l s).bind fun fl s1 => k fl.1 fl.2 s1
def opK (o : Option α) (s : Sto) (k : α → Sto → Res β) : Res β := (ofO o s).bind k
def callK (cf : Nat → List D → Sto → Res RD) (f : Nat) (ds : List D) (s : Sto) (k : RD → Sto → Res β) : Res β := (cf f ds s).bind k
def resK (r : Res α) (k : α → Sto → Res β) : Res β := r.bind k
def okK (c : Prop) [Decidable c] (x : α) (s : Sto) (k : α → Sto → Res β) : Res β := (if c then (.ok x s : Res α) else .no).bind k
def alK (x : RD) (s : Sto) (k : D → Sto → Res β) : Res β := (match x with | .d x => .ok x s | .l xs => .ok (.obj s.length) (s ++ [.lst xs]) | .m kvs => .ok (.obj s.length) (s ++ [.dct kvs]) : Res D).bind k
def negK (x : RD) (s : Sto) (k : RD → Sto → Res β) : Res β := (match x with | .d (.int i) => .ok (.d (.int (-i))) s | _ => .no : Res RD).bind k
def ntK (x : RD) (s : Sto) (k : RD → Sto → Res β) : Res β := (match x with | .d (.bl b) => .ok (.d (.bl (!b))) s | _ => .no : Res RD).bind k
def andK (x : RD) (A : Res RD) (s : Sto) (k : RD → Sto → Res β) : Res β := (match x with | .d (.bl true) => A | .d (.bl false) => .ok (.d (.bl false)) s | _ => .no : Res RD).bind k
def orK (x : RD) (A : Res RD) (s : Sto) (k : RD → Sto → Res β) : Res β := (match x with | .d (.bl false) => A | .d (.bl true) => .ok (.d (.bl true)) s | _ => .no : Res RD).bind k
def iteK (t : Bool) (A B : Res α) (k : α → Sto → Res β) : Res β := (if t = true then A else B).bind k
def inK (y : RD) (s : Sto) (k : Option Int → Sto → Res β) : Res β := (match y with | .d (.int i) => .ok (some i) s | _ => .no : Res (Option Int)).bind k
def dgK (cf : Nat → List D → Sto → Res RD) (g : Nat → Option D) (a b : Ex) (l : Loc) (o : RD) (s1 : Sto) (k : RD → Sto → Res β) : Res β :=
  (if (dctAt s1 o).isSome = true then ((den cf g a).r l s1).bind fun q s2 => ((den cf g b).v l s2).bind fun x s3 => ofO (getR s3 o q (.d x)) s3 else .no).bind k
def m1K (cf : Nat → List D → Sto → Res RD) (g : Nat → Option D) (m : M1) (a : Ex) (l : Loc) (x : D) (s1 : Sto) (k : RD → Sto → Res β) : Res β :=
  (if isLstB s1 x = true then (if m = .append then ((den cf g a).v l s1).bind fun y s2 => m1R m x (.d y) s2 else ((den cf g a).r l s1).bind fun y s2 => m1R m x y s2) else .no).bind k
noncomputable def cpK (tg : Tg) (src : Option (Nat × List D)) (c : M Bool) (e : M D) (l : Loc) (ds acc : List D) (s : Sto) (k : List D → Sto → Res β) : Res β := (cpLoop tg src c e l ds acc s).bind k
noncomputable def forK (tg : Tg) (src : Option (Nat × List D)) (b : SM) (ds : List D) (l : Loc) (s : Sto) (k : Fl → Loc → Sto → Res β) : Res β := (forLoop tg src b ds l s).bind fun fl s1 => k fl.1 fl.2 s1
def whK (c : M Bool) (b : SM) (n : Nat) (l : Loc) (s : Sto) (k : Fl → Loc → Sto → Res β) : Res β := (whLoop c b n l s).bind fun fl s1 => k fl.1 fl.2 s1
def btK (o : Option Loc) (f : Loc → Res β) : Res β := match o with
  | some l => f l
  | none => .no
def flK (f : Fl) (p q : Res β) : Res β := match f with
  | .nx => p
  | _ => q
end
section
variable {α β : Type} {cf : Nat → List D → Sto → Res RD} {g : Nat → Option D} {l : Loc} {s : Sto} {a b c o es elt it lo hi : Ex} {tg : Tg}
section
variable {k : RD → Sto → Res β}
@[simp ↓] theorem ev_int {z : Int} : ev cf g (.int z) l s k = k (.d (.int z)) s := rfl
@[simp ↓] theorem ev_str {z : Str} : ev cf g (.str z) l s k = k (.d (.str z)) s := rfl
@[simp ↓] theorem ev_bl {z : Bool} : ev cf g (.bl z) l s k = k (.d (.bl z)) s := rfl
@[simp ↓] theorem ev_non : ev cf g .non l s k = k (.d .non) s := rfl
@[simp ↓] theorem ev_gc {j : Nat} : ev cf g (.gc j) l s k = opK ((g j).map .d) s k := rfl
@[simp ↓] theorem ev_tup : ev cf g (.tup es) l s k = evs cf g es l s fun xs s1 => okK (xs.length ≤ sizeLine) (.d (.tup xs)) s1 k := bind_assoc _ _ _
@[simp ↓] theorem ev_lst : ev cf g (.lst es) l s k = evs cf g es l s fun xs s1 => okK (xs.length ≤ sizeLine) (.l xs) s1 k := bind_assoc _ _ _
@[simp ↓] theorem ev_bin {p : Bop} : ev cf g (.bin p a b) l s k = ev cf g a l s fun x s1 => ev cf g b l s1 fun y s2 => opK (binR p s2 x y) s2 k := by show Res.bind (Res.bind _ _) _ = _; simp only [bind_assoc]; rfl
@[simp ↓] theorem ev_neg : ev cf g (.neg a) l s k = ev cf g a l s fun x s1 => negK x s1 k := bind_assoc _ _ _
@[simp ↓] theorem ev_nt : ev cf g (.nt a) l s k = ev cf g a l s fun x s1 => ntK x s1 k := bind_assoc _ _ _
@[simp ↓] theorem ev_cmp {p : Cop} : ev cf g (.cmp p a b) l s k = ev cf g a l s fun x s1 => ev cf g b l s1 fun y s2 => opK ((cmpR p s2 x y).map fun t => .d (.bl t)) s2 k := by show Res.bind (Res.bind _ _) _ = _; simp only [bind_assoc]; rfl
def bif2 (t : Bool) (A : Res α) (x : α) (s : Sto) (k : α → Sto → Res β) : Res β := (if t = true then A else .ok x s).bind k
@[simp ↓] theorem bif2_eq {α β : Type} {t : Bool} {A : Res α} {x : α} {s : Sto} {k : α → Sto → Res β} : bif2 t A x s k = if t = true then A.bind k else k x s := by cases t <;> rfl
@[simp ↓] theorem ev_cmp2 {p q : Cop} : ev cf g (.cmp2 p q a b c) l s k = ev cf g a l s fun x s1 => ev cf g b l s1 fun y s2 => opK (cmpR p s2 x y) s2 fun t s2 => if t = true then ev cf g c l s2 fun z s3 => opK ((cmpR q s3 y z).map fun t => .d (.bl t)) s3 k else k (.d (.bl false)) s2 := by
  show Res.bind (Res.bind _ _) _ = _
  simp only [bind_assoc]
  unfold ev opK
  refine congrArg _ (funext fun x => funext fun s1 => congrArg _ (funext fun y => funext fun s2 => congrArg _ (funext fun t => funext fun s2 => ?_)))
  cases t
  · rfl
  · rw [if_pos rfl, if_pos rfl, bind_assoc]
@[simp ↓] theorem ev_kin {j : Nat} {kvs : List (Str × Int)} : ev cf g (.kin j kvs a) l s k = ev cf g a l s fun x s1 => opK ((kinR kvs x).map fun t => .d (.bl t)) s1 k := bind_assoc _ _ _
@[simp ↓] theorem ev_kix {j : Nat} {kvs : List (Str × Int)} : ev cf g (.kix j kvs a) l s k = ev cf g a l s fun x s1 => opK (kixR kvs x) s1 k := bind_assoc _ _ _
@[simp ↓] theorem ev_and : ev cf g (.and a b) l s k = ev cf g a l s fun x s1 => andK x ((den cf g b).r l s1) s1 k := bind_assoc _ _ _
@[simp ↓] theorem ev_or : ev cf g (.or a b) l s k = ev cf g a l s fun x s1 => orK x ((den cf g b).r l s1) s1 k := bind_assoc _ _ _
@[simp ↓] theorem ev_ife : ev cf g (.ife c a b) l s k = evb cf g c l s fun t s1 => iteK t ((den cf g a).r l s1) ((den cf g b).r l s1) k := bind_assoc _ _ _
@[simp ↓] theorem ev_call {f : Nat} : ev cf g (.call f es) l s k = evs cf g es l s fun ds s1 => callK cf f ds s1 k := bind_assoc _ _ _
@[simp ↓] theorem ev_frz : ev cf g (.frz a) l s k = ev cf g a l s fun x s1 => k (frzR x) s1 := bind_assoc _ _ _
@[simp] theorem frz_d {x : D} : frzR (.d x) = .d x := rfl
@[simp] theorem frz_l {xs : List D} : frzR (.l xs) = .d (.lf xs) := rfl
@[simp] theorem frz_m {kvs : List (D × D)} (h : dK kvs = true) : frzR (.m kvs) = .d (.ld (kvs.map (·.1)) (kvs.map (·.2))) := by show (if dK kvs = true then RD.d (.ld (kvs.map (·.1)) (kvs.map (·.2))) else .m kvs) = _; rw [if_pos h]
theorem frz_mN {kvs : List (D × D)} (h : dK kvs = false) : frzR (.m kvs) = .m kvs := by show (if dK kvs = true then RD.d (.ld (kvs.map (·.1)) (kvs.map (·.2))) else .m kvs) = _; rw [if_neg (by rw [h]; exact Bool.false_ne_true)]
@[simp ↓] theorem ev_b1 {f : B1} : ev cf g (.b1 f a) l s k = ev cf g a l s fun x s1 => opK (b1R f s1 x) s1 k := bind_assoc _ _ _
@[simp ↓] theorem ev_b2 {f : B2} : ev cf g (.b2 f a b) l s k = ev cf g a l s fun x s1 => ev cf g b l s1 fun y s2 => opK (b2R f s2 x y) s2 k := by show Res.bind (Res.bind _ _) _ = _; simp only [bind_assoc]; rfl
@[simp ↓] theorem ev_isin {t : Ty} : ev cf g (.isin a t) l s k = ev cf g a l s fun x s1 => opK ((isinR s1 t x).map fun b => .d (.bl b)) s1 k := bind_assoc _ _ _
@[simp ↓] theorem ev_fs {f : FS} : ev cf g (.fs f a) l s k = ev cf g a l s fun x s1 => opK (fsR f s1 x) s1 k := bind_assoc _ _ _
@[simp ↓] theorem ev_m0 {m : M0} : ev cf g (.m0 m o) l s k = evv cf g o l s fun x s1 => resK (m0R m x s1) k := bind_assoc _ _ _
@[simp ↓] theorem ev_m1 {m : M1} : ev cf g (.m1 m o a) l s k = evv cf g o l s fun x s1 => m1K cf g m a l x s1 k := bind_assoc _ _ _
@[simp ↓] theorem ev_ix : ev cf g (.ix a b) l s k = ev cf g a l s fun x s1 => ev cf g b l s1 fun y s2 => opK (ixR s2 x y) s2 k := by show Res.bind (Res.bind _ _) _ = _; simp only [bind_assoc]; rfl
@[simp ↓] theorem ev_sl : ev cf g (.sl a lo hi) l s k = ev cf g a l s fun x s1 => evo cf g lo l s1 fun i s2 => evo cf g hi l s2 fun j s3 => opK (slR s3 x i j) s3 k := by show Res.bind (Res.bind _ _) _ = _; simp only [bind_assoc]; rfl
@[simp ↓] theorem ev_cp {own : List Nat} : ev cf g (.cp elt tg it c own) l s k = evi cf g it l s fun its s1 => cpK tg its.src (den cf g c).b (den cf g elt).v (wipeL l own) its.ds [] s1 fun ys s2 => k (.l ys) s2 := by show Res.bind (Res.bind _ _) _ = _; simp only [bind_assoc]; rfl
@[simp ↓] theorem ev_dnew : ev cf g .dnew l s k = k (.m []) s := rfl
@[simp ↓] theorem ev_dget : ev cf g (.dget o a b) l s k = ev cf g o l s fun x s1 => dgK cf g a b l x s1 k := bind_assoc _ _ _
@[simp ↓] theorem dg_ok {x : RD} (h : (dctAt s x).isSome = true) : dgK cf g a b l x s k = ev cf g a l s fun q s2 => evv cf g b l s2 fun z s3 => opK (getR s3 x q (.d z)) s3 k := by unfold dgK; rw [if_pos h]; simp only [bind_assoc]; rfl
@[simp ↓] theorem m1_app {x : D} (h : isLstB s x = true) : m1K cf g .append a l x s k = evv cf g a l s fun y s2 => resK (m1R .append x (.d y) s2) k := by unfold m1K; rw [if_pos h, if_pos rfl, bind_assoc]; rfl
@[simp ↓] theorem m1_ext {x : D} (h : isLstB s x = true) : m1K cf g .extend a l x s k = ev cf g a l s fun y s2 => resK (m1R .extend x y s2) k := by unfold m1K; rw [if_pos h, if_neg (by decide), bind_assoc]; rfl
@[simp ↓] theorem neg_int {i : Int} : negK (.d (.int i)) s k = k (.d (.int (-i))) s := rfl
@[simp ↓] theorem nt_bl {t : Bool} : ntK (.d (.bl t)) s k = k (.d (.bl (!t))) s := rfl
@[simp ↓] theorem and_bl {t : Bool} {A : Res RD} : andK (.d (.bl t)) A s k = if t = true then A.bind k else k (.d (.bl false)) s := by cases t <;> rfl
@[simp ↓] theorem or_bl {t : Bool} {A : Res RD} : orK (.d (.bl t)) A s k = if t = true then k (.d (.bl true)) s else A.bind k := by cases t <;> rfl
@[simp ↓] theorem fold_ev {e : Ex} : ((den cf g e).r l s).bind k = ev cf g e l s k := rfl
@[simp ↓] theorem ev_var0 {r : Loc} {d : D} : ev cf g (.var 0) (some d :: r) s k = k (.d d) s := rfl
@[simp ↓] theorem ev_var1 {x0 : Option D} {r : Loc} {d : D} : ev cf g (.var 1) (x0 :: some d :: r) s k = k (.d d) s := rfl
@[simp ↓] theorem ev_var2 {x0 x1 : Option D} {r : Loc} {d : D} : ev cf g (.var 2) (x0 :: x1 :: some d :: r) s k = k (.d d) s := rfl
@[simp ↓] theorem ev_var3 {x0 x1 x2 : Option D} {r : Loc} {d : D} : ev cf g (.var 3) (x0 :: x1 :: x2 :: some d :: r) s k = k (.d d) s := rfl
@[simp ↓] theorem ev_var4 {x0 x1 x2 x3 : Option D} {r : Loc} {d : D} : ev cf g (.var 4) (x0 :: x1 :: x2 :: x3 :: some d :: r) s k = k (.d d) s := rfl
@[simp ↓] theorem ev_var5 {x0 x1 x2 x3 x4 : Option D} {r : Loc} {d : D} : ev cf g (.var 5) (x0 :: x1 :: x2 :: x3 :: x4 :: some d :: r) s k = k (.d d) s := rfl
@[simp ↓] theorem ev_var6 {x0 x1 x2 x3 x4 x5 : Option D} {r : Loc} {d : D} : ev cf g (.var 6) (x0 :: x1 :: x2 :: x3 :: x4 :: x5 :: some d :: r) s k = k (.d d) s := rfl
@[simp ↓] theorem ev_var7 {x0 x1 x2 x3 x4 x5 x6 : Option D} {r : Loc} {d : D} : ev cf g (.var 7) (x0 :: x1 :: x2 :: x3 :: x4 :: x5 :: x6 :: some d :: r) s k = k (.d d) s := rfl
@[simp ↓] theorem ev_var8 {x0 x1 x2 x3 x4 x5 x6 x7 : Option D} {r : Loc} {d : D} : ev cf g (.var 8) (x0 :: x1 :: x2 :: x3 :: x4 :: x5 :: x6 :: x7 :: some d :: r) s k = k (.d d) s := rfl
@[simp ↓] theorem ev_var9 {x0 x1 x2 x3 x4 x5 x6 x7 x8 : Option D} {r : Loc} {d : D} : ev cf g (.var 9) (x0 :: x1 :: x2 :: x3 :: x4 :: x5 :: x6 :: x7 :: x8 :: some d :: r) s k = k (.d d) s := rfl
@[simp ↓] theorem ev_var10 {x0 x1 x2 x3 x4 x5 x6 x7 x8 x9 : Option D} {r : Loc} {d : D} : ev cf g (.var 10) (x0 :: x1 :: x2 :: x3 :: x4 :: x5 :: x6 :: x7 :: x8 :: x9 :: some d :: r) s k = k (.d d) s := rfl
@[simp ↓] theorem ev_var11 {x0 x1 x2 x3 x4 x5 x6 x7 x8 x9 x10 : Option D} {r : Loc} {d : D} : ev cf g (.var 11) (x0 :: x1 :: x2 :: x3 :: x4 :: x5 :: x6 :: x7 :: x8 :: x9 :: x10 :: some d :: r) s k = k (.d d) s := rfl
@[simp ↓] theorem ev_var12 {x0 x1 x2 x3 x4 x5 x6 x7 x8 x9 x10 x11 : Option D} {r : Loc} {d : D} : ev cf g (.var 12) (x0 :: x1 :: x2 :: x3 :: x4 :: x5 :: x6 :: x7 :: x8 :: x9 :: x10 :: x11 :: some d :: r) s k = k (.d d) s := rfl
@[simp ↓] theorem ev_var13 {x0 x1 x2 x3 x4 x5 x6 x7 x8 x9 x10 x11 x12 : Option D} {r : Loc} {d : D} : ev cf g (.var 13) (x0 :: x1 :: x2 :: x3 :: x4 :: x5 :: x6 :: x7 :: x8 :: x9 :: x10 :: x11 :: x12 :: some d :: r) s k = k (.d d) s := rfl
@[simp ↓] theorem ev_var14 {x0 x1 x2 x3 x4 x5 x6 x7 x8 x9 x10 x11 x12 x13 : Option D} {r : Loc} {d : D} : ev cf g (.var 14) (x0 :: x1 :: x2 :: x3 :: x4 :: x5 :: x6 :: x7 :: x8 :: x9 :: x10 :: x11 :: x12 :: x13 :: some d :: r) s k = k (.d d) s := rfl
@[simp ↓] theorem ev_var15 {x0 x1 x2 x3 x4 x5 x6 x7 x8 x9 x10 x11 x12 x13 x14 : Option D} {r : Loc} {d : D} : ev cf g (.var 15) (x0 :: x1 :: x2 :: x3 :: x4 :: x5 :: x6 :: x7 :: x8 :: x9 :: x10 :: x11 :: x12 :: x13 :: x14 :: some d :: r) s k = k (.d d) s := rfl
end
@[simp ↓] theorem ite_k {t : Bool} {A B : Res α} {k : α → Sto → Res β} : iteK t A B k = if t = true then A.bind k else B.bind k := by cases t <;> rfl
@[simp ↓] theorem ok_k {c : Prop} [Decidable c] {x : α} {k : α → Sto → Res β} (h : c) : okK c x s k = k x s := by unfold okK; rw [if_pos h]; rfl
@[simp ↓] theorem op_k {x : α} {k : α → Sto → Res β} : opK (some x) s k = k x s := rfl
@[simp ↓] theorem res_k {x : α} {k : α → Sto → Res β} : resK (.ok x s) k = k x s := rfl
@[simp ↓] theorem fold_evb {e : Ex} {k : Bool → Sto → Res β} : ((den cf g e).b l s).bind k = evb cf g e l s k := rfl
@[simp ↓] theorem fold_evv {e : Ex} {k : D → Sto → Res β} : ((den cf g e).v l s).bind k = evv cf g e l s k := rfl
section
variable {k : D → Sto → Res β}
@[simp ↓] theorem evv_eq {e : Ex} : evv cf g e l s k = ev cf g e l s fun x s1 => alK x s1 k := bind_assoc _ _ _
@[simp ↓] theorem al_d {x : D} : alK (.d x) s k = k x s := rfl
@[simp ↓] theorem al_l {xs : List D} : alK (.l xs) s k = k (.obj s.length) (s ++ [.lst xs]) := rfl
@[simp ↓] theorem al_m {kvs : List (D × D)} : alK (.m kvs) s k = k (.obj s.length) (s ++ [.dct kvs]) := rfl
end
section
variable {k : Bool → Sto → Res β}
@[simp ↓] theorem evb_cmp {p : Cop} : evb cf g (.cmp p a b) l s k = ev cf g a l s fun x s1 => ev cf g b l s1 fun y s2 => opK (cmpR p s2 x y) s2 k := by show Res.bind (Res.bind _ _) _ = _; simp only [bind_assoc]; rfl
@[simp ↓] theorem evb_cmp2 {p q : Cop} : evb cf g (.cmp2 p q a b c) l s k = ev cf g a l s fun x s1 => ev cf g b l s1 fun y s2 => opK (cmpR p s2 x y) s2 fun t s2 => if t = true then ev cf g c l s2 fun z s3 => opK (cmpR q s3 y z) s3 k else k false s2 := by
  show Res.bind (Res.bind _ _) _ = _
  simp only [bind_assoc]
  unfold ev opK
  refine congrArg _ (funext fun x => funext fun s1 => congrArg _ (funext fun y => funext fun s2 => congrArg _ (funext fun t => funext fun s2 => ?_)))
  cases t
  · rfl
  · rw [if_pos rfl, if_pos rfl, bind_assoc]
@[simp ↓] theorem evb_kin {j : Nat} {kvs : List (Str × Int)} : evb cf g (.kin j kvs a) l s k = ev cf g a l s fun x s1 => opK (kinR kvs x) s1 k := bind_assoc _ _ _
@[simp ↓] theorem evb_nt : evb cf g (.nt a) l s k = evb cf g a l s fun t s1 => k (!t) s1 := bind_assoc _ _ _
@[simp ↓] theorem evb_and : evb cf g (.and a b) l s k = evb cf g a l s fun t s1 => if t = true then evb cf g b l s1 k else k false s1 := by show Res.bind (Res.bind _ _) _ = _; rw [bind_assoc]; unfold evb; congr 1; funext t s1; cases t <;> rfl
@[simp ↓] theorem evb_or : evb cf g (.or a b) l s k = evb cf g a l s fun t s1 => if t = true then k true s1 else evb cf g b l s1 k := by show Res.bind (Res.bind _ _) _ = _; rw [bind_assoc]; unfold evb; congr 1; funext t s1; cases t <;> rfl
@[simp ↓] theorem evb_nil : evb cf g .nil l s k = k true s := rfl
@[simp ↓] theorem evb_var {i : Nat} : evb cf g (.var i) l s k = ev cf g (.var i) l s fun x s1 => opK (truthR s1 x) s1 k := bind_assoc _ _ _
@[simp ↓] theorem evb_bl {z : Bool} : evb cf g (.bl z) l s k = k z s := rfl
@[simp ↓] theorem evb_call {f : Nat} : evb cf g (.call f es) l s k = ev cf g (.call f es) l s fun x s1 => opK (truthR s1 x) s1 k := bind_assoc _ _ _
@[simp ↓] theorem evb_b1 {f : B1} : evb cf g (.b1 f a) l s k = ev cf g (.b1 f a) l s fun x s1 => opK (truthR s1 x) s1 k := bind_assoc _ _ _
@[simp ↓] theorem evb_isin {t : Ty} : evb cf g (.isin a t) l s k = ev cf g (.isin a t) l s fun x s1 => opK (truthR s1 x) s1 k := bind_assoc _ _ _
@[simp ↓] theorem evb_ix : evb cf g (.ix a b) l s k = ev cf g (.ix a b) l s fun x s1 => opK (truthR s1 x) s1 k := bind_assoc _ _ _
end
section
variable {k : Its → Sto → Res β}
@[simp ↓] theorem evi_i1 {f : I1} : evi cf g (.i1 f a) l s k = ev cf g a l s fun x s1 => opK (i1R f s1 x) s1 k := bind_assoc _ _ _
@[simp ↓] theorem evi_i2 {f : I2} : evi cf g (.i2 f a b) l s k = ev cf g a l s fun x s1 => ev cf g b l s1 fun y s2 => opK (i2R f s2 x y) s2 k := by show Res.bind (Res.bind _ _) _ = _; simp only [bind_assoc]; rfl
@[simp ↓] theorem evi_rng3 : evi cf g (.rng3 a b c) l s k = ev cf g a l s fun x s1 => ev cf g b l s1 fun y s2 => ev cf g c l s2 fun z s3 => opK (rng3R x y z) s3 k := by show Res.bind (Res.bind _ _) _ = _; simp only [bind_assoc]; rfl
@[simp ↓] theorem evi_var {i : Nat} : evi cf g (.var i) l s k = ev cf g (.var i) l s fun x s1 => opK (itsR s1 x) s1 k := bind_assoc _ _ _
@[simp ↓] theorem evi_call {f : Nat} : evi cf g (.call f es) l s k = ev cf g (.call f es) l s fun x s1 => opK (itsR s1 x) s1 k := bind_assoc _ _ _
@[simp ↓] theorem evi_ix : evi cf g (.ix a b) l s k = ev cf g (.ix a b) l s fun x s1 => opK (itsR s1 x) s1 k := bind_assoc _ _ _
@[simp ↓] theorem evi_sl : evi cf g (.sl a lo hi) l s k = ev cf g (.sl a lo hi) l s fun x s1 => opK (itsR s1 x) s1 k := bind_assoc _ _ _
@[simp ↓] theorem evi_fs {f : FS} : evi cf g (.fs f a) l s k = ev cf g (.fs f a) l s fun x s1 => opK (itsR s1 x) s1 k := bind_assoc _ _ _
@[simp ↓] theorem evi_lst : evi cf g (.lst es) l s k = ev cf g (.lst es) l s fun x s1 => opK (itsR s1 x) s1 k := bind_assoc _ _ _
@[simp ↓] theorem evi_tup : evi cf g (.tup es) l s k = ev cf g (.tup es) l s fun x s1 => opK (itsR s1 x) s1 k := bind_assoc _ _ _
@[simp ↓] theorem evi_cp {own : List Nat} : evi cf g (.cp elt tg it c own) l s k = ev cf g (.cp elt tg it c own) l s fun x s1 => opK (itsR s1 x) s1 k := bind_assoc _ _ _
@[simp ↓] theorem evi_bin {p : Bop} : evi cf g (.bin p a b) l s k = ev cf g (.bin p a b) l s fun x s1 => opK (itsR s1 x) s1 k := bind_assoc _ _ _
@[simp ↓] theorem evi_b1 {f : B1} : evi cf g (.b1 f a) l s k = ev cf g (.b1 f a) l s fun x s1 => opK (itsR s1 x) s1 k := bind_assoc _ _ _
end
@[simp ↓] theorem evs_nil {k : List D → Sto → Res β} : evs cf g .nil l s k = k [] s := rfl
@[simp ↓] theorem evs_cons {k : List D → Sto → Res β} : evs cf g (.cons a b) l s k = evv cf g a l s fun x s1 => evs cf g b l s1 fun xs s2 => k (x :: xs) s2 := by show Res.bind (Res.bind _ _) _ = _; simp only [bind_assoc]; rfl
@[simp ↓] theorem evo_nil {k : Option Int → Sto → Res β} : evo cf g .nil l s k = k none s := rfl
theorem evo_some {k : Option Int → Sto → Res β} (h : a.isNil = false) : evo cf g a l s k = ev cf g a l s fun y s1 => inK y s1 k := by unfold evo; rw [h]; exact bind_assoc _ _ _
@[simp ↓] theorem evo_int {z : Int} {k : Option Int → Sto → Res β} : evo cf g (.int z) l s k = k (some z) s := rfl
@[simp ↓] theorem evo_var {i : Nat} {k : Option Int → Sto → Res β} : evo cf g (.var i) l s k = ev cf g (.var i) l s fun y s1 => inK y s1 k := evo_some rfl
@[simp ↓] theorem evo_bin {p : Bop} {k : Option Int → Sto → Res β} : evo cf g (.bin p a b) l s k = ev cf g (.bin p a b) l s fun y s1 => inK y s1 k := evo_some rfl
@[simp ↓] theorem in_int {i : Int} {k : Option Int → Sto → Res β} : inK (.d (.int i)) s k = k (some i) s := rfl
/-! statements -/
section
variable {u v : Sm} {j : Fl → Loc → Sto → Res β}
@[simp ↓] theorem sk_nil : sk cf g .nil l s j = j .nx l s := rfl
@[simp ↓] theorem sk_cons : sk cf g (.cons u v) l s j = sk cf g u l s fun f l1 s1 => flK f (sk cf g v l1 s1 j) (j f l1 s1) := by
  unfold sk
  show Res.bind (Res.bind _ _) _ = _
  rw [bind_assoc]
  congr 1
  funext fl s1
  obtain ⟨f, l1⟩ := fl
  cases f <;> rfl
@[simp ↓] theorem fl_nx {p q : Res β} : flK .nx p q = p := rfl
@[simp ↓] theorem fl_rt {d : RD} {p q : Res β} : flK (.rt d) p q = q := rfl
@[simp ↓] theorem fl_bk {p q : Res β} : flK .bk p q = q := rfl
@[simp ↓] theorem fl_ct {p q : Res β} : flK .ct p q = q := rfl
@[simp ↓] theorem sk_ex : sk cf g (.ex a) l s j = ev cf g a l s fun _ s1 => j .nx l s1 := bind_assoc _ _ _
@[simp ↓] theorem sk_set : sk cf g (.set tg a) l s j = evv cf g a l s fun d s1 => btK (bindT tg d l) fun l1 => j .nx l1 s1 := by
  unfold sk
  show Res.bind (Res.bind _ _) _ = _
  rw [bind_assoc]
  unfold evv
  congr 1
  funext d s1
  generalize bindT tg d l = o
  cases o <;> rfl
@[simp ↓] theorem sk_setI : sk cf g (.setI o a b) l s j = evv cf g b l s fun d s1 => evv cf g o l s1 fun p s2 => evv cf g a l s2 fun q s3 => resK (setR p q d s3) fun _ s4 => j .nx l s4 := by unfold sk; show Res.bind (Res.bind _ _) _ = _; simp only [bind_assoc]; rfl
def sliK (o d : D) (i j : Option Int) (s : Sto) (k : Unit → Sto → Res β) : Res β := match i, j with
  | some i, some j => (setSlR o d i j s).bind k
  | _, _ => .no
@[simp ↓] theorem sk_setSl : sk cf g (.setSl o lo hi a) l s j = evv cf g a l s fun d s1 => evv cf g o l s1 fun p s2 => ev cf g lo l s2 fun y s3 => inK y s3 fun i s3 => ev cf g hi l s3 fun z s4 => inK z s4 fun h s4 => sliK p d i h s4 fun _ s5 => j .nx l s5 := by
  unfold sk
  show Res.bind (Res.bind _ _) _ = _
  simp only [bind_assoc]
  unfold evv ev inK
  refine congrArg _ (funext fun d => funext fun s1 => congrArg _ (funext fun p => funext fun s2 => ?_))
  show Res.bind (Res.bind _ _) _ = _
  rw [bind_assoc]
  refine congrArg _ (funext fun y => funext fun s3 => congrArg _ (funext fun i => funext fun s3 => ?_))
  show Res.bind (Res.bind _ _) _ = _
  rw [bind_assoc]
  refine congrArg _ (funext fun z => funext fun s4 => congrArg _ (funext fun h => funext fun s4 => ?_))
  unfold sliK
  cases i with
  | none => rfl
  | some i => cases h with
    | none => rfl
    | some h => exact bind_assoc _ _ _
@[simp ↓] theorem sliK_some {o d : D} {i j : Int} {k : Unit → Sto → Res β} : sliK o d (some i) (some j) s k = resK (setSlR o d i j s) k := rfl
@[simp ↓] theorem sk_ret : sk cf g (.ret a) l s j = ev cf g a l s fun d s1 => j (.rt d) l s1 := bind_assoc _ _ _
@[simp ↓] theorem sk_retN : sk cf g .retN l s j = j (.rt (.d .non)) l s := rfl
@[simp ↓] theorem sk_ifs : sk cf g (.ifs c u v) l s j = evb cf g c l s fun t s1 => if t = true then sk cf g u l s1 j else sk cf g v l s1 j := by
  unfold sk
  show Res.bind (Res.bind _ _) _ = _
  rw [bind_assoc]
  unfold evb
  congr 1
  funext t s1
  cases t <;> rfl
@[simp ↓] theorem sk_for : sk cf g (.for_ tg a u) l s j = evi cf g a l s fun its s1 => forK tg its.src (sden cf g u) its.ds l s1 j := bind_assoc _ _ _
@[simp ↓] theorem sk_wh : sk cf g (.wh c u) l s j = whK (den cf g c).b (sden cf g u) whileFuel l s j := rfl
@[simp ↓] theorem sk_brk : sk cf g .brk l s j = j .bk l s := rfl
@[simp ↓] theorem sk_cnt : sk cf g .cnt l s j = j .ct l s := rfl
@[simp ↓] theorem sk_pass : sk cf g .pass l s j = j .nx l s := rfl
theorem fold_sk : (sden cf g u l s).bind (fun fl s1 => j fl.1 fl.2 s1) = sk cf g u l s j := rfl
@[simp ↓] theorem bt_v0 {r : Loc} {o : Option D} {d : D} {f : Loc → Res β} : btK (bindT (.v 0) d (o :: r)) f = f (some d :: r) := by unfold bindT; simp [btK]
@[simp ↓] theorem bt_v1 {x0 : Option D} {r : Loc} {o : Option D} {d : D} {f : Loc → Res β} : btK (bindT (.v 1) d (x0 :: o :: r)) f = f (x0 :: some d :: r) := by unfold bindT; simp [btK]
@[simp ↓] theorem bt_v2 {x0 x1 : Option D} {r : Loc} {o : Option D} {d : D} {f : Loc → Res β} : btK (bindT (.v 2) d (x0 :: x1 :: o :: r)) f = f (x0 :: x1 :: some d :: r) := by unfold bindT; simp [btK]
@[simp ↓] theorem bt_v3 {x0 x1 x2 : Option D} {r : Loc} {o : Option D} {d : D} {f : Loc → Res β} : btK (bindT (.v 3) d (x0 :: x1 :: x2 :: o :: r)) f = f (x0 :: x1 :: x2 :: some d :: r) := by unfold bindT; simp [btK]
@[simp ↓] theorem bt_v4 {x0 x1 x2 x3 : Option D} {r : Loc} {o : Option D} {d : D} {f : Loc → Res β} : btK (bindT (.v 4) d (x0 :: x1 :: x2 :: x3 :: o :: r)) f = f (x0 :: x1 :: x2 :: x3 :: some d :: r) := by unfold bindT; simp [btK]
@[simp ↓] theorem bt_v5 {x0 x1 x2 x3 x4 : Option D} {r : Loc} {o : Option D} {d : D} {f : Loc → Res β} : btK (bindT (.v 5) d (x0 :: x1 :: x2 :: x3 :: x4 :: o :: r)) f = f (x0 :: x1 :: x2 :: x3 :: x4 :: some d :: r) := by unfold bindT; simp [btK]
@[simp ↓] theorem bt_v6 {x0 x1 x2 x3 x4 x5 : Option D} {r : Loc} {o : Option D} {d : D} {f : Loc → Res β} : btK (bindT (.v 6) d (x0 :: x1 :: x2 :: x3 :: x4 :: x5 :: o :: r)) f = f (x0 :: x1 :: x2 :: x3 :: x4 :: x5 :: some d :: r) := by unfold bindT; simp [btK]
@[simp ↓] theorem bt_v7 {x0 x1 x2 x3 x4 x5 x6 : Option D} {r : Loc} {o : Option D} {d : D} {f : Loc → Res β} : btK (bindT (.v 7) d (x0 :: x1 :: x2 :: x3 :: x4 :: x5 :: x6 :: o :: r)) f = f (x0 :: x1 :: x2 :: x3 :: x4 :: x5 :: x6 :: some d :: r) := by unfold bindT; simp [btK]
@[simp ↓] theorem bt_v8 {x0 x1 x2 x3 x4 x5 x6 x7 : Option D} {r : Loc} {o : Option D} {d : D} {f : Loc → Res β} : btK (bindT (.v 8) d (x0 :: x1 :: x2 :: x3 :: x4 :: x5 :: x6 :: x7 :: o :: r)) f = f (x0 :: x1 :: x2 :: x3 :: x4 :: x5 :: x6 :: x7 :: some d :: r) := by unfold bindT; simp [btK]
@[simp ↓] theorem bt_v9 {x0 x1 x2 x3 x4 x5 x6 x7 x8 : Option D} {r : Loc} {o : Option D} {d : D} {f : Loc → Res β} : btK (bindT (.v 9) d (x0 :: x1 :: x2 :: x3 :: x4 :: x5 :: x6 :: x7 :: x8 :: o :: r)) f = f (x0 :: x1 :: x2 :: x3 :: x4 :: x5 :: x6 :: x7 :: x8 :: some d :: r) := by unfold bindT; simp [btK]
@[simp ↓] theorem bt_v10 {x0 x1 x2 x3 x4 x5 x6 x7 x8 x9 : Option D} {r : Loc} {o : Option D} {d : D} {f : Loc → Res β} : btK (bindT (.v 10) d (x0 :: x1 :: x2 :: x3 :: x4 :: x5 :: x6 :: x7 :: x8 :: x9 :: o :: r)) f = f (x0 :: x1 :: x2 :: x3 :: x4 :: x5 :: x6 :: x7 :: x8 :: x9 :: some d :: r) := by unfold bindT; simp [btK]
@[simp ↓] theorem bt_v11 {x0 x1 x2 x3 x4 x5 x6 x7 x8 x9 x10 : Option D} {r : Loc} {o : Option D} {d : D} {f : Loc → Res β} : btK (bindT (.v 11) d (x0 :: x1 :: x2 :: x3 :: x4 :: x5 :: x6 :: x7 :: x8 :: x9 :: x10 :: o :: r)) f = f (x0 :: x1 :: x2 :: x3 :: x4 :: x5 :: x6 :: x7 :: x8 :: x9 :: x10 :: some d :: r) := by unfold bindT; simp [btK]
@[simp ↓] theorem bt_v12 {x0 x1 x2 x3 x4 x5 x6 x7 x8 x9 x10 x11 : Option D} {r : Loc} {o : Option D} {d : D} {f : Loc → Res β} : btK (bindT (.v 12) d (x0 :: x1 :: x2 :: x3 :: x4 :: x5 :: x6 :: x7 :: x8 :: x9 :: x10 :: x11 :: o :: r)) f = f (x0 :: x1 :: x2 :: x3 :: x4 :: x5 :: x6 :: x7 :: x8 :: x9 :: x10 :: x11 :: some d :: r) := by unfold bindT; simp [btK]
@[simp ↓] theorem bt_v13 {x0 x1 x2 x3 x4 x5 x6 x7 x8 x9 x10 x11 x12 : Option D} {r : Loc} {o : Option D} {d : D} {f : Loc → Res β} : btK (bindT (.v 13) d (x0 :: x1 :: x2 :: x3 :: x4 :: x5 :: x6 :: x7 :: x8 :: x9 :: x10 :: x11 :: x12 :: o :: r)) f = f (x0 :: x1 :: x2 :: x3 :: x4 :: x5 :: x6 :: x7 :: x8 :: x9 :: x10 :: x11 :: x12 :: some d :: r) := by unfold bindT; simp [btK]
@[simp ↓] theorem bt_v14 {x0 x1 x2 x3 x4 x5 x6 x7 x8 x9 x10 x11 x12 x13 : Option D} {r : Loc} {o : Option D} {d : D} {f : Loc → Res β} : btK (bindT (.v 14) d (x0 :: x1 :: x2 :: x3 :: x4 :: x5 :: x6 :: x7 :: x8 :: x9 :: x10 :: x11 :: x12 :: x13 :: o :: r)) f = f (x0 :: x1 :: x2 :: x3 :: x4 :: x5 :: x6 :: x7 :: x8 :: x9 :: x10 :: x11 :: x12 :: x13 :: some d :: r) := by unfold bindT; simp [btK]
@[simp ↓] theorem bt_v15 {x0 x1 x2 x3 x4 x5 x6 x7 x8 x9 x10 x11 x12 x13 x14 : Option D} {r : Loc} {o : Option D} {d : D} {f : Loc → Res β} : btK (bindT (.v 15) d (x0 :: x1 :: x2 :: x3 :: x4 :: x5 :: x6 :: x7 :: x8 :: x9 :: x10 :: x11 :: x12 :: x13 :: x14 :: o :: r)) f = f (x0 :: x1 :: x2 :: x3 :: x4 :: x5 :: x6 :: x7 :: x8 :: x9 :: x10 :: x11 :: x12 :: x13 :: x14 :: some d :: r) := by unfold bindT; simp [btK]
@[simp ↓] theorem sk_aug0 {p : Bop} {r : Loc} {d : D} {j : Fl → Loc → Sto → Res β} : sk cf g (.aug 0 p a) (some d :: r) s j = ev cf g a (some d :: r) s fun y s1 => opK (augR p d y) s1 fun d2 s2 => j .nx (some d2 :: r) s2 := by unfold sk; show Res.bind (Res.bind _ _) _ = _; simp only [bind_assoc]; rfl
@[simp ↓] theorem sk_aug1 {p : Bop} {x0 : Option D} {r : Loc} {d : D} {j : Fl → Loc → Sto → Res β} : sk cf g (.aug 1 p a) (x0 :: some d :: r) s j = ev cf g a (x0 :: some d :: r) s fun y s1 => opK (augR p d y) s1 fun d2 s2 => j .nx (x0 :: some d2 :: r) s2 := by unfold sk; show Res.bind (Res.bind _ _) _ = _; simp only [bind_assoc]; rfl
@[simp ↓] theorem sk_aug2 {p : Bop} {x0 x1 : Option D} {r : Loc} {d : D} {j : Fl → Loc → Sto → Res β} : sk cf g (.aug 2 p a) (x0 :: x1 :: some d :: r) s j = ev cf g a (x0 :: x1 :: some d :: r) s fun y s1 => opK (augR p d y) s1 fun d2 s2 => j .nx (x0 :: x1 :: some d2 :: r) s2 := by unfold sk; show Res.bind (Res.bind _ _) _ = _; simp only [bind_assoc]; rfl
@[simp ↓] theorem sk_aug3 {p : Bop} {x0 x1 x2 : Option D} {r : Loc} {d : D} {j : Fl → Loc → Sto → Res β} : sk cf g (.aug 3 p a) (x0 :: x1 :: x2 :: some d :: r) s j = ev cf g a (x0 :: x1 :: x2 :: some d :: r) s fun y s1 => opK (augR p d y) s1 fun d2 s2 => j .nx (x0 :: x1 :: x2 :: some d2 :: r) s2 := by unfold sk; show Res.bind (Res.bind _ _) _ = _; simp only [bind_assoc]; rfl
@[simp ↓] theorem sk_aug4 {p : Bop} {x0 x1 x2 x3 : Option D} {r : Loc} {d : D} {j : Fl → Loc → Sto → Res β} : sk cf g (.aug 4 p a) (x0 :: x1 :: x2 :: x3 :: some d :: r) s j = ev cf g a (x0 :: x1 :: x2 :: x3 :: some d :: r) s fun y s1 => opK (augR p d y) s1 fun d2 s2 => j .nx (x0 :: x1 :: x2 :: x3 :: some d2 :: r) s2 := by unfold sk; show Res.bind (Res.bind _ _) _ = _; simp only [bind_assoc]; rfl
@[simp ↓] theorem sk_aug5 {p : Bop} {x0 x1 x2 x3 x4 : Option D} {r : Loc} {d : D} {j : Fl → Loc → Sto → Res β} : sk cf g (.aug 5 p a) (x0 :: x1 :: x2 :: x3 :: x4 :: some d :: r) s j = ev cf g a (x0 :: x1 :: x2 :: x3 :: x4 :: some d :: r) s fun y s1 => opK (augR p d y) s1 fun d2 s2 => j .nx (x0 :: x1 :: x2 :: x3 :: x4 :: some d2 :: r) s2 := by unfold sk; show Res.bind (Res.bind _ _) _ = _; simp only [bind_assoc]; rfl
@[simp ↓] theorem sk_aug6 {p : Bop} {x0 x1 x2 x3 x4 x5 : Option D} {r : Loc} {d : D} {j : Fl → Loc → Sto → Res β} : sk cf g (.aug 6 p a) (x0 :: x1 :: x2 :: x3 :: x4 :: x5 :: some d :: r) s j = ev cf g a (x0 :: x1 :: x2 :: x3 :: x4 :: x5 :: some d :: r) s fun y s1 => opK (augR p d y) s1 fun d2 s2 => j .nx (x0 :: x1 :: x2 :: x3 :: x4 :: x5 :: some d2 :: r) s2 := by unfold sk; show Res.bind (Res.bind _ _) _ = _; simp only [bind_assoc]; rfl
@[simp ↓] theorem sk_aug7 {p : Bop} {x0 x1 x2 x3 x4 x5 x6 : Option D} {r : Loc} {d : D} {j : Fl → Loc → Sto → Res β} : sk cf g (.aug 7 p a) (x0 :: x1 :: x2 :: x3 :: x4 :: x5 :: x6 :: some d :: r) s j = ev cf g a (x0 :: x1 :: x2 :: x3 :: x4 :: x5 :: x6 :: some d :: r) s fun y s1 => opK (augR p d y) s1 fun d2 s2 => j .nx (x0 :: x1 :: x2 :: x3 :: x4 :: x5 :: x6 :: some d2 :: r) s2 := by unfold sk; show Res.bind (Res.bind _ _) _ = _; simp only [bind_assoc]; rfl
@[simp ↓] theorem sk_aug8 {p : Bop} {x0 x1 x2 x3 x4 x5 x6 x7 : Option D} {r : Loc} {d : D} {j : Fl → Loc → Sto → Res β} : sk cf g (.aug 8 p a) (x0 :: x1 :: x2 :: x3 :: x4 :: x5 :: x6 :: x7 :: some d :: r) s j = ev cf g a (x0 :: x1 :: x2 :: x3 :: x4 :: x5 :: x6 :: x7 :: some d :: r) s fun y s1 => opK (augR p d y) s1 fun d2 s2 => j .nx (x0 :: x1 :: x2 :: x3 :: x4 :: x5 :: x6 :: x7 :: some d2 :: r) s2 := by unfold sk; show Res.bind (Res.bind _ _) _ = _; simp only [bind_assoc]; rfl
@[simp ↓] theorem sk_aug9 {p : Bop} {x0 x1 x2 x3 x4 x5 x6 x7 x8 : Option D} {r : Loc} {d : D} {j : Fl → Loc → Sto → Res β} : sk cf g (.aug 9 p a) (x0 :: x1 :: x2 :: x3 :: x4 :: x5 :: x6 :: x7 :: x8 :: some d :: r) s j = ev cf g a (x0 :: x1 :: x2 :: x3 :: x4 :: x5 :: x6 :: x7 :: x8 :: some d :: r) s fun y s1 => opK (augR p d y) s1 fun d2 s2 => j .nx (x0 :: x1 :: x2 :: x3 :: x4 :: x5 :: x6 :: x7 :: x8 :: some d2 :: r) s2 := by unfold sk; show Res.bind (Res.bind _ _) _ = _; simp only [bind_assoc]; rfl
@[simp ↓] theorem sk_aug10 {p : Bop} {x0 x1 x2 x3 x4 x5 x6 x7 x8 x9 : Option D} {r : Loc} {d : D} {j : Fl → Loc → Sto → Res β} : sk cf g (.aug 10 p a) (x0 :: x1 :: x2 :: x3 :: x4 :: x5 :: x6 :: x7 :: x8 :: x9 :: some d :: r) s j = ev cf g a (x0 :: x1 :: x2 :: x3 :: x4 :: x5 :: x6 :: x7 :: x8 :: x9 :: some d :: r) s fun y s1 => opK (augR p d y) s1 fun d2 s2 => j .nx (x0 :: x1 :: x2 :: x3 :: x4 :: x5 :: x6 :: x7 :: x8 :: x9 :: some d2 :: r) s2 := by unfold sk; show Res.bind (Res.bind _ _) _ = _; simp only [bind_assoc]; rfl
@[simp ↓] theorem sk_aug11 {p : Bop} {x0 x1 x2 x3 x4 x5 x6 x7 x8 x9 x10 : Option D} {r : Loc} {d : D} {j : Fl → Loc → Sto → Res β} : sk cf g (.aug 11 p a) (x0 :: x1 :: x2 :: x3 :: x4 :: x5 :: x6 :: x7 :: x8 :: x9 :: x10 :: some d :: r) s j = ev cf g a (x0 :: x1 :: x2 :: x3 :: x4 :: x5 :: x6 :: x7 :: x8 :: x9 :: x10 :: some d :: r) s fun y s1 => opK (augR p d y) s1 fun d2 s2 => j .nx (x0 :: x1 :: x2 :: x3 :: x4 :: x5 :: x6 :: x7 :: x8 :: x9 :: x10 :: some d2 :: r) s2 := by unfold sk; show Res.bind (Res.bind _ _) _ = _; simp only [bind_assoc]; rfl
@[simp ↓] theorem sk_aug12 {p : Bop} {x0 x1 x2 x3 x4 x5 x6 x7 x8 x9 x10 x11 : Option D} {r : Loc} {d : D} {j : Fl → Loc → Sto → Res β} : sk cf g (.aug 12 p a) (x0 :: x1 :: x2 :: x3 :: x4 :: x5 :: x6 :: x7 :: x8 :: x9 :: x10 :: x11 :: some d :: r) s j = ev cf g a (x0 :: x1 :: x2 :: x3 :: x4 :: x5 :: x6 :: x7 :: x8 :: x9 :: x10 :: x11 :: some d :: r) s fun y s1 => opK (augR p d y) s1 fun d2 s2 => j .nx (x0 :: x1 :: x2 :: x3 :: x4 :: x5 :: x6 :: x7 :: x8 :: x9 :: x10 :: x11 :: some d2 :: r) s2 := by unfold sk; show Res.bind (Res.bind _ _) _ = _; simp only [bind_assoc]; rfl
@[simp ↓] theorem sk_aug13 {p : Bop} {x0 x1 x2 x3 x4 x5 x6 x7 x8 x9 x10 x11 x12 : Option D} {r : Loc} {d : D} {j : Fl → Loc → Sto → Res β} : sk cf g (.aug 13 p a) (x0 :: x1 :: x2 :: x3 :: x4 :: x5 :: x6 :: x7 :: x8 :: x9 :: x10 :: x11 :: x12 :: some d :: r) s j = ev cf g a (x0 :: x1 :: x2 :: x3 :: x4 :: x5 :: x6 :: x7 :: x8 :: x9 :: x10 :: x11 :: x12 :: some d :: r) s fun y s1 => opK (augR p d y) s1 fun d2 s2 => j .nx (x0 :: x1 :: x2 :: x3 :: x4 :: x5 :: x6 :: x7 :: x8 :: x9 :: x10 :: x11 :: x12 :: some d2 :: r) s2 := by unfold sk; show Res.bind (Res.bind _ _) _ = _; simp only [bind_assoc]; rfl
@[simp ↓] theorem sk_aug14 {p : Bop} {x0 x1 x2 x3 x4 x5 x6 x7 x8 x9 x10 x11 x12 x13 : Option D} {r : Loc} {d : D} {j : Fl → Loc → Sto → Res β} : sk cf g (.aug 14 p a) (x0 :: x1 :: x2 :: x3 :: x4 :: x5 :: x6 :: x7 :: x8 :: x9 :: x10 :: x11 :: x12 :: x13 :: some d :: r) s j = ev cf g a (x0 :: x1 :: x2 :: x3 :: x4 :: x5 :: x6 :: x7 :: x8 :: x9 :: x10 :: x11 :: x12 :: x13 :: some d :: r) s fun y s1 => opK (augR p d y) s1 fun d2 s2 => j .nx (x0 :: x1 :: x2 :: x3 :: x4 :: x5 :: x6 :: x7 :: x8 :: x9 :: x10 :: x11 :: x12 :: x13 :: some d2 :: r) s2 := by unfold sk; show Res.bind (Res.bind _ _) _ = _; simp only [bind_assoc]; rfl
@[simp ↓] theorem sk_aug15 {p : Bop} {x0 x1 x2 x3 x4 x5 x6 x7 x8 x9 x10 x11 x12 x13 x14 : Option D} {r : Loc} {d : D} {j : Fl → Loc → Sto → Res β} : sk cf g (.aug 15 p a) (x0 :: x1 :: x2 :: x3 :: x4 :: x5 :: x6 :: x7 :: x8 :: x9 :: x10 :: x11 :: x12 :: x13 :: x14 :: some d :: r) s j = ev cf g a (x0 :: x1 :: x2 :: x3 :: x4 :: x5 :: x6 :: x7 :: x8 :: x9 :: x10 :: x11 :: x12 :: x13 :: x14 :: some d :: r) s fun y s1 => opK (augR p d y) s1 fun d2 s2 => j .nx (x0 :: x1 :: x2 :: x3 :: x4 :: x5 :: x6 :: x7 :: x8 :: x9 :: x10 :: x11 :: x12 :: x13 :: x14 :: some d2 :: r) s2 := by unfold sk; show Res.bind (Res.bind _ _) _ = _; simp only [bind_assoc]; rfl
@[simp ↓] theorem bt_2 {t1 t2 : Tg} {x y : D} {f : Loc → Res β} : btK (bindT (.c t1 (.c t2 .n)) (.tup [x, y]) l) f = btK (bindT t1 x l) fun l1 => btK (bindT t2 y l1) f := by
  have e : bindT (.c t1 (.c t2 .n)) (.tup [x, y]) l = (bindT t1 x l).bind fun l1 => (bindT t2 y l1).bind some := by
    simp only [bindT, bindTs]
  rw [e]
  cases bindT t1 x l with
  | none => rfl
  | some l1 =>
    show btK ((bindT t2 y l1).bind some) f = btK (bindT t2 y l1) f
    cases bindT t2 y l1 <;> rfl
end
/-! loops -/
theorem for_nil {src : Option (Nat × List D)} {b : SM} {j : Fl → Loc → Sto → Res β} (h : srcOk src s) : forK tg src b [] l s j = j .nx l s := by unfold forK forLoop; rw [if_pos h]; rfl
theorem for_cons {src : Option (Nat × List D)} {u : Sm} {x : D} {r : List D} {j : Fl → Loc → Sto → Res β} (h : srcOk src s) :
    forK tg src (sden cf g u) (x :: r) l s j = btK (bindT tg x l) fun l1 => sk cf g u l1 s fun f l2 s2 => (match f with
      | .nx => forK tg src (sden cf g u) r l2 s2 j
      | .ct => forK tg src (sden cf g u) r l2 s2 j
      | .bk => j .nx l2 s2
      | .rt d => j (.rt d) l2 s2) := by
  unfold forK
  rw [forLoop, if_pos h]
  cases bindT tg x l with
  | none => rfl
  | some l1 =>
    simp only [btK, bind_assoc]
    unfold sk
    congr 1
    funext fl s1
    obtain ⟨f, l2⟩ := fl
    cases f <;> rfl
theorem cp_nil {src : Option (Nat × List D)} {c : M Bool} {e : M D} {acc : List D} {j : List D → Sto → Res β} (h : srcOk src s) : cpK tg src c e l [] acc s j = j acc s := by unfold cpK cpLoop; rw [if_pos h]; rfl
noncomputable def evbN (cf : Nat → List D → Sto → Res RD) (g : Nat → Option D) (e : Ex) (l : Loc) (s : Sto) (k : Bool → Sto → Res β) : Res β := (noX ((den cf g e).b l s)).bind k
noncomputable def evvN (cf : Nat → List D → Sto → Res RD) (g : Nat → Option D) (e : Ex) (l : Loc) (s : Sto) (k : D → Sto → Res β) : Res β := (noX ((den cf g e).v l s)).bind k
theorem cp_cons0 {src : Option (Nat × List D)} {x : D} {r acc : List D} {j : List D → Sto → Res β} (h : srcOk src s) (hl : acc.length < sizeLine) :
    cpK tg src (den cf g c).b (den cf g elt).v l (x :: r) acc s j = btK (bindT tg x l) fun l1 => evbN cf g c l1 s fun t s1 => if t = true then evvN cf g elt l1 s1 fun y s2 => cpK tg src (den cf g c).b (den cf g elt).v l r (acc ++ [y]) s2 j
      else cpK tg src (den cf g c).b (den cf g elt).v l r acc s1 j := by
  unfold cpK
  rw [cpLoop, if_pos h]
  cases bindT tg x l with
  | none => rfl
  | some l1 =>
    simp only [btK, bind_assoc]
    unfold evbN
    congr 1
    funext t s1
    cases t
    · rfl
    · simp only [bind_assoc, if_true]
      unfold evvN
      congr 1
      funext y s2
      rw [if_pos hl]
/-- a turn that raises nothing -/
theorem turnN {x : D} {K1 : D → Sto → Res β} {K2 : Sto → Res β} (h : btK (bindT tg x l) (fun l1 => evb cf g c l1 s fun t s1 => if t = true then evv cf g elt l1 s1 (fun _ _ => .no) else .no) = (.no : Res β)) :
    btK (bindT tg x l) (fun l1 => evbN cf g c l1 s fun t s1 => if t = true then evvN cf g elt l1 s1 K1 else K2 s1) = btK (bindT tg x l) (fun l1 => evb cf g c l1 s fun t s1 => if t = true then evv cf g elt l1 s1 K1 else K2 s1) := by
  cases e : bindT tg x l with
  | none => rfl
  | some l1 =>
    rw [e] at h
    unfold evb at h
    show (noX ((den cf g c).b l1 s)).bind _ = ((den cf g c).b l1 s).bind _
    cases e1 : (den cf g c).b l1 s with
    | no => rfl
    | ex d s1 => rw [btK, e1] at h; cases h
    | ok t s1 =>
      cases t with
      | false => rfl
      | true =>
        show (noX ((den cf g elt).v l1 s1)).bind _ = ((den cf g elt).v l1 s1).bind _
        rw [btK, e1] at h
        unfold evv at h
        cases e2 : (den cf g elt).v l1 s1 with
        | no => rfl
        | ok y s2 => rfl
        | ex d s2 =>
          have h2 : ((den cf g elt).v l1 s1).bind (fun _ _ => (.no : Res β)) = .no := h
          rw [e2] at h2; cases h2
theorem cp_cons {src : Option (Nat × List D)} {x : D} {r acc : List D} {j : List D → Sto → Res β} (h : srcOk src s) (hl : acc.length < sizeLine)
    (hx : btK (bindT tg x l) (fun l1 => evb cf g c l1 s fun t s1 => if t = true then evv cf g elt l1 s1 (fun _ _ => .no) else .no) = (.no : Res β)) :
    cpK tg src (den cf g c).b (den cf g elt).v l (x :: r) acc s j = btK (bindT tg x l) fun l1 => evb cf g c l1 s fun t s1 => if t = true then evv cf g elt l1 s1 fun y s2 => cpK tg src (den cf g c).b (den cf g elt).v l r (acc ++ [y]) s2 j
      else cpK tg src (den cf g c).b (den cf g elt).v l r acc s1 j := by
  rw [cp_cons0 h hl]
  exact turnN hx
/-! raise, try -/
@[simp ↓] theorem sk_raise {n : Str} {k : Fl → Loc → Sto → Res β} : sk cf g (.raise n) l s k = .ex (.str n) s := rfl
theorem sden_sk {u : Sm} : (sk cf g u l s fun f l1 s1 => (.ok (f, l1) s1 : Res (Fl × Loc))) = sden cf g u l s := by
  unfold sk
  cases sden cf g u l s <;> rfl
theorem callK_ex {f : Nat} {ds : List D} {k : RD → Sto → Res β} {d : D} {s1 : Sto} (h : cf f ds s = .ex d s1) : callK cf f ds s k = .ex d s1 := by unfold callK; rw [h]; rfl
theorem sk_try_ex {u : Sm} {cls n : Str} {i : Nat} {h : Hs} {k : Fl → Loc → Sto → Res β} {s1 : Sto} (hb : (sk cf g u l s fun f l1 s1 => (.ok (f, l1) s1 : Res (Fl × Loc))) = .ex (.str n) s1) (hi : i < l.length) :
    sk cf g (.try_ u cls i n h) l s k = k .nx ((h.run (l.set i none)).set i none) s1 := by
  rw [sden_sk] at hb
  have e : sden cf g (.try_ u cls i n h) l s = .ok (.nx, (h.run (l.set i none)).set i none) s1 := by
    unfold sden
    simp only [hb]
    simp only [hi, and_self, if_true]
  unfold sk
  rw [e]
  rfl
theorem sk_try_ok {u : Sm} {cls n : Str} {i : Nat} {h : Hs} {k : Fl → Loc → Sto → Res β} {f : Fl} {l1 : Loc} {s1 : Sto} (hb : (sk cf g u l s fun f l1 s1 => (.ok (f, l1) s1 : Res (Fl × Loc))) = .ok (f, l1) s1) :
    sk cf g (.try_ u cls i n h) l s k = k f l1 s1 := by
  rw [sden_sk] at hb
  have e : sden cf g (.try_ u cls i n h) l s = .ok (f, l1) s1 := by
    unfold sden
    simp only [hb]
  unfold sk
  rw [e]
  rfl
end
/-! operations on data of a known form -/
section
variable {s : Sto} {i j : Int} {x y : Str} {xs ys : List D} {d : D}
@[simp] theorem at0 {α : Type} {a : α} {r : List α} : atI (a :: r) 0 = some a := atI_nat (j := 0) rfl
@[simp] theorem at1 {α : Type} {a b : α} {r : List α} : atI (a :: b :: r) 1 = some b := atI_nat (j := 1) rfl
@[simp] theorem at2 {α : Type} {a b c : α} {r : List α} : atI (a :: b :: c :: r) 2 = some c := atI_nat (j := 2) rfl
@[simp] theorem ix0 {n : Nat} : ixN (n + 1) 0 = some 0 := by unfold ixN; rw [if_pos (by decide), if_pos (by omega)]; rfl
@[simp] theorem ix1 {n : Nat} : ixN (n + 1 + 1) 1 = some 1 := by unfold ixN; rw [if_pos (by decide), if_pos (by omega)]; rfl
@[simp] theorem ix12 : ixN 1 0 = some 0 := rfl
@[simp] theorem ix20 : ixN 2 0 = some 0 := rfl
@[simp] theorem ix21 : ixN 2 1 = some 1 := rfl
@[simp] theorem at3 {α : Type} {a b c e : α} {r : List α} : atI (a :: b :: c :: e :: r) 3 = some e := atI_nat (j := 3) rfl
@[simp] theorem bin_add : binR .add s (.d (.int i)) (.d (.int j)) = some (.d (.int (i + j))) := rfl
@[simp] theorem bin_sub : binR .sub s (.d (.int i)) (.d (.int j)) = some (.d (.int (i - j))) := rfl
open Classical in
@[simp] theorem bin_mul (h : CMul i j) : binR .mul s (.d (.int i)) (.d (.int j)) = some (.d (.int (i * j))) := by show (if CMul i j then some (i * j) else none).map _ = _; rw [if_pos h]; rfl
open Classical in
@[simp] theorem bin_fdiv (h : CDivN i j) : binR .fdiv s (.d (.int i)) (.d (.int j)) = some (.d (.int (i.fdiv j))) := by show (if CDivN i j ∨ CDivW i j then some (i.fdiv j) else none).map _ = _; rw [if_pos (.inl h)]; rfl
open Classical in
theorem bin_fdivW (h : CDivW i j) : binR .fdiv s (.d (.int i)) (.d (.int j)) = some (.d (.int (i.fdiv j))) := by show (if CDivN i j ∨ CDivW i j then some (i.fdiv j) else none).map _ = _; rw [if_pos (.inr h)]; rfl
@[simp] theorem bin_mod (h : j ≠ 0) : binR .mod s (.d (.int i)) (.d (.int j)) = some (.d (.int (i.fmod j))) := by show (if j ≠ 0 then some (i.fmod j) else none).map _ = _; rw [if_pos h]; rfl
@[simp] theorem bin_str (h : x.length + y.length ≤ sizeLine) : binR .add s (.d (.str x)) (.d (.str y)) = some (.d (.str (x ++ y))) := by show (if Bop.add = .add ∧ x.length + y.length ≤ sizeLine then _ else none) = _; rw [if_pos ⟨rfl, h⟩]
@[simp] theorem bin_tup (h : xs.length + ys.length ≤ sizeLine) : binR .add s (.d (.tup xs)) (.d (.tup ys)) = some (.d (.tup (xs ++ ys))) := by show (if Bop.add = .add then catR xs ys fun zs => .d (.tup zs) else none) = _; rw [if_pos rfl]; unfold catR; rw [if_pos h]
@[simp] theorem cmp_eq {a b : RD} : cmpR .eq s a b = eqR s a b := rfl
@[simp] theorem cmp_ne {a b : RD} : cmpR .ne s a b = (eqR s a b).map (!·) := rfl
@[simp] theorem cmp_lt : cmpR .lt s (.d (.int i)) (.d (.int j)) = some (decide (i < j)) := rfl
@[simp] theorem cmp_gt : cmpR .gt s (.d (.int i)) (.d (.int j)) = some (decide (j < i)) := rfl
@[simp] theorem cmp_le : cmpR .le s (.d (.int i)) (.d (.int j)) = some (decide (i ≤ j)) := rfl
@[simp] theorem cmp_ge : cmpR .ge s (.d (.int i)) (.d (.int j)) = some (decide (j ≤ i)) := rfl
@[simp] theorem cmp_in {a b : RD} : cmpR .inn s a b = hasR s a b := rfl
@[simp] theorem cmp_nin {a b : RD} : cmpR .nin s a b = (hasR s a b).map (!·) := rfl
@[simp] theorem has_l {a : RD} : hasR s a (.l xs) = inR s a (.l xs) := rfl
@[simp] theorem has_tup {a : RD} : hasR s a (.d (.tup xs)) = inR s a (.d (.tup xs)) := rfl
@[simp] theorem has_lf {a : RD} : hasR s a (.d (.lf xs)) = inR s a (.d (.lf xs)) := rfl
@[simp] theorem has_str {a : RD} : hasR s a (.d (.str x)) = inR s a (.d (.str x)) := rfl
theorem dct_obj {k : Nat} : dctAt s (.d (.obj k)) = match s[k]? with
    | some (.dct kvs) => if dK kvs = true then some kvs else none
    | _ => none := by
  have e : anyD s (.d (.obj k)) = match s[k]? with | some (.dct kvs) => some kvs | _ => none := rfl
  unfold dctAt
  rw [e]
  cases s[k]? with
  | none => rfl
  | some o => cases o <;> rfl
@[simp] theorem has_obj {k : Nat} {a : RD} : hasR s a (.d (.obj k)) = match s[k]? with
    | some (.dct kvs) => if dK kvs = true then (keyR a).map fun k => (dlk kvs k).isSome else inR s a (.d (.obj k))
    | _ => inR s a (.d (.obj k)) := by
  unfold hasR
  rw [dct_obj]
  cases s[k]? with
  | none => rfl
  | some o => cases o with
    | lst xs => rfl
    | dct kvs =>
      simp only
      by_cases h : dK kvs = true
      · rw [if_pos h, if_pos h]
      · rw [if_neg h, if_neg h]
@[simp] theorem key_int : keyR (.d (.int i)) = some (.inl i) := rfl
@[simp] theorem key_str : keyR (.d (.str x)) = some (.inr x) := rfl
@[simp] theorem cmp_is {a b : RD} : cmpR .is s a b = isR a b := rfl
@[simp] theorem cmp_isn {a b : RD} : cmpR .isn s a b = (isR a b).map (!·) := rfl
@[simp] theorem is_bl {a b : Bool} : isR (.d (.bl a)) (.d (.bl b)) = some (decide (a = b)) := rfl
@[simp] theorem is_dn {d : D} : isR (.d d) (.d .non) = some (match d with | .non => true | _ => false) := rfl
@[simp] theorem kin_str {kvs : List (Str × Int)} : kinR kvs (.d (.str x)) = some (kvs.lookup x).isSome := rfl
@[simp] theorem kix_str {kvs : List (Str × Int)} : kixR kvs (.d (.str x)) = (kvs.lookup x).map fun i => .d (.int i) := rfl
theorem int_beq : (i == j) = decide (i = j) := by by_cases h : i = j <;> simp [h]
theorem str_beq : (x == y) = decide (x = y) := by by_cases h : x = y <;> simp [h]
@[simp] theorem eq_int : eqR s (.d (.int i)) (.d (.int j)) = some (decide (i = j)) := by
  show (if SeqAt.shaped (.int i) = true ∧ SeqAt.shaped (.int j) = true then some (PyData.eqv (.int i) (.int j)) else none) = _
  rw [if_pos ⟨rfl, rfl⟩, ← int_beq]
  simp only [PyData.eqv]
theorem sh_str (h : PyData.canLay0 (.str x) = true) : SeqAt.shaped (.str x) = true := by
  unfold SeqAt.shaped
  rw [h]
  rfl
@[simp] theorem eq_str (hx : PyData.canLay0 (.str x) = true) (hy : PyData.canLay0 (.str y) = true) : eqR s (.d (.str x)) (.d (.str y)) = some (decide (x = y)) := by
  show (if SeqAt.shaped (.str x) = true ∧ SeqAt.shaped (.str y) = true then some (PyData.eqv (.str x) (.str y)) else none) = _
  rw [if_pos ⟨sh_str hx, sh_str hy⟩, ← str_beq]
  simp only [PyData.eqv]
@[simp] theorem asL_l : asL s (.l xs) = some xs := rfl
@[simp] theorem asL_lf : asL s (.d (.lf xs)) = some xs := rfl
@[simp] theorem asL_obj {k : Nat} : asL s (.d (.obj k)) = lstAt s k := rfl
@[simp] theorem asL_tup : asL s (.d (.tup xs)) = none := rfl
@[simp] theorem asM_l : asM s (.l xs) = some xs := rfl
@[simp] theorem asM_obj {k : Nat} : asM s (.d (.obj k)) = lstAt s k := rfl
@[simp] theorem asQ_l : asQ s (.l xs) = some xs := rfl
@[simp] theorem asQ_lf : asQ s (.d (.lf xs)) = some xs := rfl
@[simp] theorem asQ_tup : asQ s (.d (.tup xs)) = some xs := rfl
@[simp] theorem asQ_obj {k : Nat} : asQ s (.d (.obj k)) = lstAt s k := rfl
theorem lstAt_of {k : Nat} (h : s[k]? = some (.lst xs)) : lstAt s k = some xs := by unfold lstAt; rw [h]
@[simp] theorem lstAt_eq {k : Nat} : lstAt s k = match s[k]? with
    | some (.lst xs) => some xs
    | _ => none := rfl
@[simp] theorem isLst_of {k : Nat} : isLstB s (.obj k) = (lstAt s k).isSome := rfl
theorem cat_l {a b : RD} (h1 : asL s a = some xs) (h2 : asL s b = some ys) (h : xs.length + ys.length ≤ sizeLine) : binR .add s a b = some (.l (xs ++ ys)) := by
  have key : (match asL s a, asL s b with | some xs, some ys => if Bop.add = .add then catR xs ys .l else none | _, _ => none) = some (.l (xs ++ ys)) := by
    rw [h1, h2]
    show (if Bop.add = .add then catR xs ys .l else none) = _
    rw [if_pos rfl]; unfold catR; rw [if_pos h]
  cases a with
  | l z => exact key
  | m z => cases h1
  | d z => cases z with
    | obj k => exact key
    | lf k => exact key
    | _ => cases h1
@[simp] theorem ix_tup : ixR s (.d (.tup xs)) (.d (.int i)) = (atI xs i).map .d := rfl
@[simp] theorem ix_l : ixR s (.l xs) (.d (.int i)) = (atI xs i).map .d := rfl
@[simp] theorem ix_lf : ixR s (.d (.lf xs)) (.d (.int i)) = (atI xs i).map .d := rfl
@[simp] theorem ix_obj {k : Nat} : ixR s (.d (.obj k)) (.d (.int i)) = match s[k]? with
    | some (.lst xs) => (atI xs i).map .d
    | some (.dct kvs) => if dK kvs = true then (dlk kvs (.inl i)).map .d else none
    | none => none := by
  unfold ixR
  rw [dct_obj]
  cases e : s[k]? with
  | none => show (lstAt s k).bind _ = _; unfold lstAt; rw [e]; rfl
  | some o => cases o with
    | lst xs => show (lstAt s k).bind _ = _; unfold lstAt; rw [e]; rfl
    | dct kvs =>
      simp only
      by_cases h : dK kvs = true
      · rw [if_pos h, if_pos h]; rfl
      · rw [if_neg h, if_neg h]; show (lstAt s k).bind _ = _; unfold lstAt; rw [e]; rfl
@[simp] theorem ix_objs {k : Nat} : ixR s (.d (.obj k)) (.d (.str x)) = match s[k]? with
    | some (.dct kvs) => if dK kvs = true then (dlk kvs (.inr x)).map .d else none
    | _ => none := by
  unfold ixR
  rw [dct_obj]
  cases e : s[k]? with
  | none => rfl
  | some o => cases o with
    | lst xs => rfl
    | dct kvs =>
      simp only
      by_cases h : dK kvs = true
      · rw [if_pos h, if_pos h]; rfl
      · rw [if_neg h, if_neg h]; rfl
@[simp] theorem its_tup : itsR s (.d (.tup xs)) = some ⟨xs, none⟩ := rfl
@[simp] theorem its_lf : itsR s (.d (.lf xs)) = some ⟨xs, none⟩ := rfl
@[simp] theorem its_ld {ks : List D} : itsR s (.d (.ld ks xs)) = some ⟨ks, none⟩ := rfl
@[simp] theorem its_l : itsR s (.l xs) = some ⟨xs, none⟩ := rfl
@[simp] theorem its_any {k : Nat} : itsR s (.d (.obj k)) = match s[k]? with
    | some (.lst xs) => some ⟨xs, some (k, xs)⟩
    | _ => none := rfl
theorem its_obj {k : Nat} (h : s[k]? = some (.lst xs)) : itsR s (.d (.obj k)) = some ⟨xs, some (k, xs)⟩ := by unfold itsR; simp only; rw [h]
@[simp] theorem tr_bl {t : Bool} : truthR s (.d (.bl t)) = some t := rfl
theorem set_r {k : Nat} {z : Nat} (h : s[k]? = some (.lst xs)) (hi : ixN xs.length i = some z) : setR (.obj k) (.int i) d s = .ok () (s.set k (.lst (xs.set z d))) := by
  unfold setR
  simp only
  rw [h]
  simp only
  rw [hi]
@[simp] theorem setR_any {k : Nat} : setR (.obj k) (.int i) d s = match s[k]? with
    | some (.lst xs) => (match ixN xs.length i with
      | some z => .ok () (s.set k (.lst (xs.set z d)))
      | none => .no)
    | some (.dct kvs) => if kvs.length < sizeLine ∧ dK kvs = true then .ok () (s.set k (.dct (dput kvs (.inl i) d))) else .no
    | none => .no := by
  unfold setR
  cases e : s[k]? with
  | none => simp only [e]
  | some o => cases o <;> (simp only [e, keyK]; try rfl)
@[simp] theorem setR_str {k : Nat} : setR (.obj k) (.str x) d s = match s[k]? with
    | some (.dct kvs) => if kvs.length < sizeLine ∧ dK kvs = true then .ok () (s.set k (.dct (dput kvs (.inr x) d))) else .no
    | _ => .no := by
  unfold setR
  cases e : s[k]? with
  | none => simp only [e]
  | some o => cases o <;> simp only [e, keyK]
theorem set_r0 {k : Nat} {z : D} {r : List D} (h : s[k]? = some (.lst (z :: r))) : setR (.obj k) (.int 0) d s = .ok () (s.set k (.lst (d :: r))) := set_r (z := 0) h (by unfold ixN; simp)
theorem set_r1 {k : Nat} {z y : D} {r : List D} (h : s[k]? = some (.lst (z :: y :: r))) : setR (.obj k) (.int 1) d s = .ok () (s.set k (.lst (z :: d :: r))) := set_r (z := 1) h (by
  unfold ixN
  have e : (1 : Int) < ((z :: y :: r).length : Nat) := by simp only [List.length_cons]; omega
  rw [if_pos (by decide), if_pos e]; rfl)
theorem mul_small (h1 : 0 ≤ i) (h2 : i < 18446744073709551616) : CMul i j := .inl ⟨by omega, by omega⟩
theorem mul_const (h1 : -18446744073709551616 < j) (h2 : j < 18446744073709551616) : CMul i j := .inr ⟨by omega, by omega⟩
theorem div_small (h1 : 0 < j) (h2 : j < 1073741824) : CDivN i j := ⟨by omega, by omega⟩
@[simp] theorem max_int : b2R .max s (.d (.int i)) (.d (.int j)) = some (.d (.int (if j > i then j else i))) := rfl
@[simp] theorem min_int : b2R .min s (.d (.int i)) (.d (.int j)) = some (.d (.int (if j < i then j else i))) := rfl
@[simp] theorem small_le {n : Nat} : ((n : Nat) ≤ sizeLine) = (n ≤ 16777216) := by rw [sizeLine_eq]
end
theorem isin_lst {s : Sto} {k : Nat} {xs : List D} {t : Ty} (h : s[k]? = some (.lst xs)) : isinR s t (.d (.obj k)) = some (decide (t = .list)) := by
  show (match dctAt s (.d (.obj k)) with | some _ => some (decide (t = Ty.dict)) | none => (lstAt s k).map fun _ => decide (t = Ty.list)) = _
  rw [dct_obj, h, lstAt_of h]; rfl
theorem len_lst {s : Sto} {k : Nat} {xs : List D} (h : s[k]? = some (.lst xs)) : b1R .len s (.d (.obj k)) = some (.d (.int xs.length)) := by
  show (match dctAt s (.d (.obj k)) with | some kvs => some (RD.d (.int (kvs.length : Nat))) | none => (asQ s (.d (.obj k))).map fun (xs : List D) => RD.d (.int (xs.length : Nat))) = _
  rw [dct_obj, h, asQ_obj, lstAt_of h]; rfl
/-! calls -/
def finK (n : Nat) (f : Fl) (_ : Loc) (s : Sto) : Res RD := match f with
  | .nx => fin n (.d .non) s
  | .rt d => fin n d s
  | _ => .no
@[simp ↓] theorem fin_nx {n : Nat} {l : Loc} {s : Sto} : finK n .nx l s = fin n (.d .non) s := rfl
@[simp ↓] theorem fin_rt {n : Nat} {l : Loc} {s : Sto} {d : RD} : finK n (.rt d) l s = fin n d s := rfl
theorem call_at {T : Tab} {n i : Nat} {F : Fn} {ds : List D} {s : Sto} (h : T.fns[i]? = some F) (hl : ds.length = F.ps.length) : callN T (n + 1) i ds s = sk (callN T n) T.gc F.body (ds.map some ++ List.replicate (F.ns.length - ds.length) none) s (finK s.length) := by
  unfold callN
  rw [h]
  show runFn _ _ _ _ _ = _
  unfold runFn
  rw [if_pos hl]
  rfl
/-- everything in the store leans on the store alone -/
def Clo (s : Sto) : Prop := s.all (Ob.lt s.length) = true
mutual
theorem lt_le {m n : Nat} (h : m ≤ n) : ∀ d : D, d.lt m = true → d.lt n = true
  | .non, _ => rfl
  | .bl _, _ => rfl
  | .int _, _ => rfl
  | .str _, _ => rfl
  | .tup xs, q => by unfold D.lt at *; exact ltAll_le h xs q
  | .lf xs, q => by unfold D.lt at *; exact ltAll_le h xs q
  | .ld ks vs, q => by
    unfold D.lt at *
    rw [Bool.and_eq_true] at *
    exact ⟨ltAll_le h ks q.1, ltAll_le h vs q.2⟩
  | .obj i, q => by unfold D.lt at *; exact decide_eq_true (Nat.lt_of_lt_of_le (of_decide_eq_true q) h)
theorem ltAll_le {m n : Nat} (h : m ≤ n) : ∀ ds : List D, D.ltAll m ds = true → D.ltAll n ds = true
  | [], _ => rfl
  | d :: r, q => by
    unfold D.ltAll at *
    rw [Bool.and_eq_true] at *
    exact ⟨lt_le h d q.1, ltAll_le h r q.2⟩
end
theorem ob_le {m n : Nat} (h : m ≤ n) {o : Ob} (q : o.lt m = true) : o.lt n = true := by
  cases o with
  | lst xs => exact ltAll_le h xs q
  | dct kvs =>
    unfold Ob.lt at *
    rw [Bool.and_eq_true] at *
    exact ⟨ltAll_le h _ q.1, ltAll_le h _ q.2⟩
theorem Clo.push {s : Sto} {o : Ob} (h : Clo s) (q : o.lt (s.length + 1) = true) : Clo (s ++ [o]) := by
  unfold Clo at *
  rw [List.length_append, List.all_append, Bool.and_eq_true]
  refine ⟨?_, by simp [q]⟩
  rw [List.all_eq_true] at *
  exact fun x hx => ob_le (Nat.le_succ _) (h x hx)
theorem Clo.set {s : Sto} {o : Ob} {k : Nat} (h : Clo s) (q : o.lt s.length = true) : Clo (s.set k o) := by
  unfold Clo at *
  rw [List.length_set, List.all_eq_true] at *
  intro x hx
  rcases List.mem_or_eq_of_mem_set hx with z | z
  · exact h x z
  · rw [z]; exact q
/-- what a call leaves, where it made nothing that stays -/
def RD.lt (n : Nat) : RD → Bool
  | .d x => x.lt n
  | .l xs => D.ltAll n xs
  | .m kvs => (Ob.dct kvs).lt n
theorem fin_any {s s1 : Sto} {d : RD} (e : s1.take s.length = s) (h : Clo s) (q : d.lt s.length = true) : fin s.length d s1 = .ok d s := by
  unfold fin
  rw [e, if_pos (show s.all (Ob.lt s.length) = true from h)]
  cases d with
  | d x => simp only; rw [if_pos (show x.lt s.length = true from q)]
  | l xs => simp only; rw [if_pos (show D.ltAll s.length xs = true from q)]
  | m kvs => simp only; rw [if_pos (show (Ob.dct kvs).lt s.length = true from q)]
theorem fin_pure {s : Sto} {d : RD} (h : Clo s) (q : d.lt s.length = true) : fin s.length d s = .ok d s := fin_any List.take_length h q
/-- .. garbage behind -/
theorem fin_g {s g : Sto} {d : RD} (h : Clo s) (q : d.lt s.length = true) : fin s.length d (s ++ g) = .ok d s := fin_any List.take_left h q
theorem fin_set {s : Sto} {n : Nat} {d : RD} (hn : s.length = n) (h : Clo s) (q : d.lt n = true) : fin n d s = .ok d s := by rw [← hn] at q ⊢; exact fin_pure h q
/-- a list of the call's own -/
theorem fin_new {s g : Sto} {k : Nat} {xs : List D} (h : Clo s) (hk : s.length ≤ k) (ho : (s ++ g)[k]? = some (.lst xs)) (q : D.ltAll s.length xs = true) : fin s.length (.d (.obj k)) (s ++ g) = .ok (.l xs) s := by
  unfold fin
  have e : (s ++ g).take s.length = s := List.take_left
  rw [e, if_pos (show s.all (Ob.lt s.length) = true from h)]
  simp only
  rw [if_neg (by unfold D.lt; simp; exact hk)]
  rw [ho]
  simp only
  rw [if_pos q]
/-- a dict of the call's own -/
theorem fin_newD {s g : Sto} {k : Nat} {kvs : List (D × D)} (h : Clo s) (hk : s.length ≤ k) (ho : (s ++ g)[k]? = some (.dct kvs)) (q : (Ob.dct kvs).lt s.length = true) : fin s.length (.d (.obj k)) (s ++ g) = .ok (.m kvs) s := by
  unfold fin
  have e : (s ++ g).take s.length = s := List.take_left
  rw [e, if_pos (show s.all (Ob.lt s.length) = true from h)]
  simp only
  rw [if_neg (by unfold D.lt; simp; exact hk)]
  rw [ho]
  simp only
  rw [if_pos q]
end Nv

set_option Elab.async false
set_option maxRecDepth 100000
set_option autoImplicit false
set_option linter.all false
set_option maxHeartbeats 1000000
/-! NvP: tools for plain laws: values of a known form, comprehensions, loops, calls. -/
namespace Nv
open PySem PySem.Spec PyProof.Rows L2
theorem callK_of {β : Type} {cf : Nat → List D → Sto → Res RD} {f : Nat} {ds : List D} {s s' : Sto} {d : RD} (h : cf f ds s = .ok d s') (k : RD → Sto → Res β) : callK cf f ds s k = k d s' := by unfold callK; rw [h]; rfl
section
variable {s : Sto} {xs ys : List D} {t : Ty} {i : Int} {x : Str} {b : Bool} {d : D}
@[simp] theorem len_tup : b1R .len s (.d (.tup xs)) = some (.d (.int xs.length)) := rfl
@[simp] theorem len_l : b1R .len s (.l xs) = some (.d (.int xs.length)) := rfl
@[simp] theorem len_lf : b1R .len s (.d (.lf xs)) = some (.d (.int xs.length)) := rfl
theorem len_str (h : x.length ≤ sizeLine) : b1R .len s (.d (.str x)) = some (.d (.int x.length)) := by show (if x.length ≤ sizeLine then _ else none) = _; rw [if_pos h]
@[simp] theorem list_tup : b1R .list s (.d (.tup xs)) = some (.l xs) := rfl
@[simp] theorem list_l : b1R .list s (.l xs) = some (.l xs) := rfl
@[simp] theorem list_lf : b1R .list s (.d (.lf xs)) = some (.l xs) := rfl
@[simp] theorem tuple_tup : b1R .tuple s (.d (.tup xs)) = some (.d (.tup xs)) := rfl
@[simp] theorem tuple_l : b1R .tuple s (.l xs) = some (.d (.tup xs)) := rfl
@[simp] theorem tuple_lf : b1R .tuple s (.d (.lf xs)) = some (.d (.tup xs)) := rfl
@[simp] theorem int_bl : b1R .int s (.d (.bl b)) = some (.d (.int (if b = true then 1 else 0))) := rfl
@[simp] theorem int_int : b1R .int s (.d (.int i)) = some (.d (.int i)) := rfl
@[simp] theorem isin_tup : isinR s t (.d (.tup xs)) = some (decide (t = .tuple)) := rfl
@[simp] theorem isin_l : isinR s t (.l xs) = some (decide (t = .list)) := rfl
@[simp] theorem isin_lf : isinR s t (.d (.lf xs)) = some (decide (t = .list)) := rfl
@[simp] theorem isin_str : isinR s t (.d (.str x)) = some (decide (t = .str)) := rfl
@[simp] theorem isin_int : isinR s t (.d (.int i)) = some (decide (t = .int)) := rfl
@[simp] theorem isin_bl : isinR s t (.d (.bl b)) = some (decide (t = .bool ∨ t = .int)) := rfl
@[simp] theorem isin_non : isinR s t (.d .non) = some false := rfl
@[simp] theorem enum_l : i1R .enumerate s (.l xs) = some ⟨numbered 0 xs, none⟩ := rfl
@[simp] theorem enum_lf : i1R .enumerate s (.d (.lf xs)) = some ⟨numbered 0 xs, none⟩ := rfl
@[simp] theorem range_ok {j : Int} (h : small62 j) : i1R .range s (.d (.int j)) = some ⟨upTo 0 j.toNat, none⟩ := by unfold i1R; simp only; rw [if_pos h]
@[simp] theorem zip_ll : i2R .zip s (.l xs) (.l ys) = some ⟨zipD xs ys, none⟩ := rfl
@[simp] theorem zip_lf : i2R .zip s (.l xs) (.d (.lf ys)) = some ⟨zipD xs ys, none⟩ := rfl
@[simp] theorem zip_fl : i2R .zip s (.d (.lf xs)) (.l ys) = some ⟨zipD xs ys, none⟩ := rfl
@[simp] theorem zip_ff : i2R .zip s (.d (.lf xs)) (.d (.lf ys)) = some ⟨zipD xs ys, none⟩ := rfl
@[simp] theorem zip_tl : i2R .zip s (.d (.tup xs)) (.l ys) = some ⟨zipD xs ys, none⟩ := rfl
@[simp] theorem zip_tf : i2R .zip s (.d (.tup xs)) (.d (.lf ys)) = some ⟨zipD xs ys, none⟩ := rfl
theorem zip_to {k : Nat} (h : s[k]? = some (.lst ys)) : i2R .zip s (.d (.tup xs)) (.d (.obj k)) = some ⟨zipD xs ys, some (k, ys)⟩ := by
  have e : lstAt s k = some ys := lstAt_of h
  show (match some xs, lstAt s k, none, (lstAt s k).map fun xs => (k, xs) with
    | some xs, some ys, none, q => some (⟨zipD xs ys, q⟩ : Its)
    | some xs, some ys, some q, none => some ⟨zipD xs ys, some q⟩
    | _, _, _, _ => none) = _
  rw [e]; rfl
@[simp] theorem zip_tt : i2R .zip s (.d (.tup xs)) (.d (.tup ys)) = some ⟨zipD xs ys, none⟩ := rfl
@[simp] theorem sl_tup {lo hi : Option Int} : slR s (.d (.tup xs)) lo hi = some (.d (.tup (cutD xs lo hi))) := rfl
@[simp] theorem sl_l {lo hi : Option Int} : slR s (.l xs) lo hi = some (.l (cutD xs lo hi)) := rfl
@[simp] theorem sl_lf {lo hi : Option Int} : slR s (.d (.lf xs)) lo hi = some (.l (cutD xs lo hi)) := rfl
@[simp] theorem bin_ll (h : xs.length + ys.length ≤ sizeLine) : binR .add s (.l xs) (.l ys) = some (.l (xs ++ ys)) := cat_l rfl rfl h
@[simp] theorem bin_lf (h : xs.length + ys.length ≤ sizeLine) : binR .add s (.l xs) (.d (.lf ys)) = some (.l (xs ++ ys)) := cat_l rfl rfl h
@[simp] theorem bin_fl (h : xs.length + ys.length ≤ sizeLine) : binR .add s (.d (.lf xs)) (.l ys) = some (.l (xs ++ ys)) := cat_l rfl rfl h
@[simp] theorem bin_ff (h : xs.length + ys.length ≤ sizeLine) : binR .add s (.d (.lf xs)) (.d (.lf ys)) = some (.l (xs ++ ys)) := cat_l rfl rfl h
end
section
variable {xs : List D}
theorem cut_from {k : Nat} : cutD xs (some (k : Int)) none = xs.drop k := by
  unfold cutD
  rw [HT.sIx_nat, HT.sIx_none]
  by_cases h : k ≤ xs.length
  · rw [Nat.min_eq_left h, List.take_of_length_le (by rw [List.length_drop]; exact Nat.le_refl _)]
  · rw [Nat.min_eq_right (by omega), List.drop_eq_nil_of_le (Nat.le_refl _), List.drop_eq_nil_of_le (by omega)]; simp
theorem cut_to {k : Nat} : cutD xs none (some (k : Int)) = xs.take k := by
  unfold cutD
  rw [HT.sIx_nat, HT.sIx_none, List.drop_zero, Nat.sub_zero]
  by_cases h : k ≤ xs.length
  · rw [Nat.min_eq_left h]
  · rw [Nat.min_eq_right (by omega), List.take_of_length_le (Nat.le_refl _), List.take_of_length_le (by omega)]
@[simp] theorem cut_1 : cutD xs (some 1) none = xs.drop 1 := cut_from (k := 1)
@[simp] theorem cut_2 : cutD xs (some 2) none = xs.drop 2 := cut_from (k := 2)
@[simp] theorem cut_3 : cutD xs (some 3) none = xs.drop 3 := cut_from (k := 3)
@[simp] theorem cut_4 : cutD xs (some 4) none = xs.drop 4 := cut_from (k := 4)
@[simp] theorem cutt_1 : cutD xs none (some 1) = xs.take 1 := cut_to (k := 1)
@[simp] theorem cutt_2 : cutD xs none (some 2) = xs.take 2 := cut_to (k := 2)
@[simp] theorem cutt_3 : cutD xs none (some 3) = xs.take 3 := cut_to (k := 3)
theorem cut_mid {i j : Nat} : cutD xs (some (i : Int)) (some (j : Int)) = (xs.drop i).take (j - i) := by
  unfold cutD
  rw [HT.sIx_nat, HT.sIx_nat]
  by_cases h : i ≤ xs.length
  · rw [Nat.min_eq_left h]
    by_cases h2 : j ≤ xs.length
    · rw [Nat.min_eq_left h2]
    · rw [Nat.min_eq_right (show xs.length ≤ j by omega), List.take_of_length_le (by rw [List.length_drop]; exact Nat.le_refl _), List.take_of_length_le (by rw [List.length_drop]; omega)]
  · rw [Nat.min_eq_right (show xs.length ≤ i by omega), List.drop_eq_nil_of_le (Nat.le_refl _), List.drop_eq_nil_of_le (show xs.length ≤ i by omega)]; simp
end
section
variable {α β : Type} {cf : Nat → List D → Sto → Res RD} {g : Nat → Option D} {l : Loc} {s : Sto}
@[simp ↓] theorem bt_3 {t1 t2 t3 : Tg} {x y z : D} {f : Loc → Res β} : btK (bindT (.c t1 (.c t2 (.c t3 .n))) (.tup [x, y, z]) l) f = btK (bindT t1 x l) fun l1 => btK (bindT t2 y l1) fun l2 => btK (bindT t3 z l2) f := by
  have e : bindT (.c t1 (.c t2 (.c t3 .n))) (.tup [x, y, z]) l = (bindT t1 x l).bind fun l1 => (bindT t2 y l1).bind fun l2 => (bindT t3 z l2).bind some := by
    simp only [bindT, bindTs]
  rw [e]
  cases bindT t1 x l with
  | none => rfl
  | some l1 =>
    show btK ((bindT t2 y l1).bind fun l2 => (bindT t3 z l2).bind some) f = btK (bindT t2 y l1) _
    cases bindT t2 y l1 with
    | none => rfl
    | some l2 =>
      show btK ((bindT t3 z l2).bind some) f = btK (bindT t3 z l2) f
      cases bindT t3 z l2 <;> rfl
/-- what stands in one list, told of each of another -/
inductive All2 {α β : Type} (R : α → β → Prop) : List α → List β → Prop
  | nil : All2 R [] []
  | cons {a : α} {b : β} {as : List α} {bs : List β} : R a b → All2 R as bs → All2 R (a :: as) (b :: bs)
theorem All2.len {α β : Type} {R : α → β → Prop} {as : List α} {bs : List β} (h : All2 R as bs) : bs.length = as.length := by
  induction h with
  | nil => rfl
  | cons _ _ ih => rw [List.length_cons, List.length_cons, ih]
theorem All2.imp {α β : Type} {R S : α → β → Prop} {as : List α} {bs : List β} (h : All2 R as bs) (f : ∀ a b, R a b → S a b) : All2 S as bs := by
  induction h with
  | nil => exact .nil
  | cons r _ ih => exact .cons (f _ _ r) ih
theorem All2.map {α β : Type} {R : α → β → Prop} {f : α → β} : ∀ {as : List α}, (∀ a ∈ as, R a (f a)) → All2 R as (as.map f)
  | [], _ => .nil
  | a :: as, h => .cons (h a (.head _)) (All2.map fun x hx => h x (.tail _ hx))
theorem All2.zw {α β γ : Type} {R : γ → β → Prop} {f : α → β → γ} : ∀ {as : List α} {bs : List β}, as.length = bs.length → (∀ a ∈ as, ∀ b ∈ bs, R (f a b) b) → All2 R (List.zipWith f as bs) bs
  | [], [], _, _ => .nil
  | [], _ :: _, h, _ => by cases h
  | _ :: _, [], h, _ => by cases h
  | a :: as, b :: bs, h, q => .cons (q a (.head _) b (.head _)) (All2.zw (by simpa using h) fun x hx y hy => q x (.tail _ hx) y (.tail _ hy))
/-- a comprehension that changes nothing -/
theorem cp_all {tg : Tg} {src : Option (Nat × List D)} {c elt : Ex} (hs : srcOk src s) : ∀ {ds ys acc : List D}, acc.length + ds.length ≤ sizeLine →
    All2 (fun x y => ∀ (K1 : D → Sto → Res β) (K2 : Sto → Res β), btK (bindT tg x l) (fun l1 => evb cf g c l1 s fun t s1 => if t = true then evv cf g elt l1 s1 K1 else K2 s1) = K1 y s) ds ys →
      ∀ k : List D → Sto → Res β, cpK tg src (den cf g c).b (den cf g elt).v l ds acc s k = k (acc ++ ys) s
  | _, _, acc, _, .nil, k => by rw [cp_nil hs, List.append_nil]
  | x :: ds, y :: ys, acc, hl, .cons h t, k => by
    rw [List.length_cons] at hl
    rw [cp_cons hs (by omega) (h _ _), h, cp_all hs (by rw [List.length_append, List.length_singleton]; omega) t, List.append_assoc]
    rfl
/-- .. with a test -/
theorem cp_if {tg : Tg} {src : Option (Nat × List D)} {c elt : Ex} {p : D → Bool} {f : D → D} (hs : srcOk src s) : ∀ {ds acc : List D}, acc.length + ds.length ≤ sizeLine →
    (∀ x ∈ ds, ∀ (K1 : D → Sto → Res β) (K2 : Sto → Res β), btK (bindT tg x l) (fun l1 => evb cf g c l1 s fun t s1 => if t = true then evv cf g elt l1 s1 K1 else K2 s1) = if p x = true then K1 (f x) s else K2 s) →
      ∀ k : List D → Sto → Res β, cpK tg src (den cf g c).b (den cf g elt).v l ds acc s k = k (acc ++ (ds.filter p).map f) s
  | [], acc, _, _, k => by rw [cp_nil hs, List.filter_nil, List.map_nil, List.append_nil]
  | x :: ds, acc, hl, h, k => by
    rw [List.length_cons] at hl
    rw [cp_cons hs (by omega) (by rw [h x (.head _) (fun _ _ => .no) (fun _ => .no)]; split <;> rfl), h x (.head _)]
    cases hp : p x with
    | false => 
      rw [if_neg Bool.false_ne_true, cp_if hs (by omega) fun z hz => h z (.tail _ hz), List.filter_cons_of_neg (by simp [hp])]
    | true =>
      rw [if_pos rfl, cp_if hs (by rw [List.length_append, List.length_singleton]; omega) fun z hz => h z (.tail _ hz), List.filter_cons_of_pos hp, List.map_cons, List.append_assoc]
      rfl
/-- a loop whose turns all go on -/
theorem for_go {tg : Tg} {src : Option (Nat × List D)} {u : Sm} {I : List D → Loc → Sto → Prop} : ∀ {ds : List D} {l : Loc} {s : Sto}, I ds l s → (∀ ds l s, I ds l s → srcOk src s) →
    (∀ x ds l s, I (x :: ds) l s → ∃ l2 s2, I ds l2 s2 ∧ ∀ F : Fl → Loc → Sto → Res β, btK (bindT tg x l) (fun l1 => sk cf g u l1 s F) = F .nx l2 s2) →
      ∃ l2 s2, I [] l2 s2 ∧ ∀ j : Fl → Loc → Sto → Res β, forK tg src (sden cf g u) ds l s j = j .nx l2 s2
  | [], l, s, hi, hs, _ => ⟨l, s, hi, fun j => for_nil (hs _ _ _ hi)⟩
  | x :: ds, l, s, hi, hs, h => by
    obtain ⟨l2, s2, h2, e⟩ := h x ds l s hi
    obtain ⟨l3, s3, h3, e3⟩ := for_go h2 hs h
    refine ⟨l3, s3, h3, fun j => ?_⟩
    rw [for_cons (hs _ _ _ hi), e]
    exact e3 j
end
/-! what lies ahead of a place of the store -/
theorem Clo.lst {s : Sto} {k : Nat} {xs : List D} (h : Clo s) (e : s[k]? = some (.lst xs)) : D.ltAll s.length xs = true := List.all_eq_true.mp (show s.all (Ob.lt s.length) = true from h) _ (List.mem_of_getElem? e)
theorem ltAll_mem {n : Nat} : ∀ {xs : List D}, (∀ x ∈ xs, x.lt n = true) → D.ltAll n xs = true
  | [], _ => rfl
  | x :: r, h => by unfold D.ltAll; rw [h x (.head _), ltAll_mem fun y hy => h y (.tail _ hy)]; rfl
theorem lt_mem {n : Nat} : ∀ {xs : List D} {x : D}, D.ltAll n xs = true → x ∈ xs → x.lt n = true
  | y :: r, x, h, m => by
    unfold D.ltAll at h
    rw [Bool.and_eq_true] at h
    rcases List.mem_cons.mp m with e | m
    · rw [e]; exact h.1
    · exact lt_mem h.2 m
theorem at_mem {α : Type} {xs : List α} {i : Int} (h1 : 0 ≤ i) (h2 : i < xs.length) : ∃ x ∈ xs, atI xs i = some x := by
  obtain ⟨k, rfl⟩ := Int.eq_ofNat_of_zero_le h1
  have hk : k < xs.length := by omega
  exact ⟨xs[k], List.getElem_mem hk, atI_nat (List.getElem?_eq_getElem hk)⟩
theorem atI_map {α β : Type} {f : α → β} {xs : List α} {i : Int} : atI (xs.map f) i = (atI xs i).map f := by
  unfold atI
  rw [List.length_map]
  cases ixN xs.length i with
  | none => rfl
  | some j => show (xs.map f)[j]? = (xs[j]?).map f; rw [List.getElem?_map]
theorem small_of {j : Int} (h1 : -1000000 ≤ j) (h2 : j < 1000000) : small62 j := ⟨by omega, by omega⟩
theorem up_len : ∀ (n : Nat) (lo : Int), (upTo lo n).length = n
  | 0, _ => rfl
  | n + 1, lo => by rw [upTo, List.length_cons, up_len n]
theorem lt_strs {n : Nat} : ∀ xs : List Str, D.ltAll n (xs.map D.str) = true
  | [] => rfl
  | x :: r => by rw [List.map_cons]; unfold D.ltAll; rw [lt_strs r]; rfl
/-! a list of one's own in the store -/
theorem tuple_obj {s : Sto} {k : Nat} {xs : List D} (h : s[k]? = some (.lst xs)) : b1R .tuple s (.d (.obj k)) = some (.d (.tup xs)) := by show (asQ s (.d (.obj k))).map _ = _; rw [asQ_obj, lstAt_of h]; rfl
theorem ixN_nat {n i : Nat} (h : i < n) : ixN n (i : Int) = some i := by unfold ixN; rw [if_pos (by omega), if_pos (by omega), Int.toNat_natCast]
theorem mid_at {s g : Sto} {o : Ob} : (s ++ (o :: g))[s.length]? = some o := by rw [List.getElem?_append_right (Nat.le_refl _), Nat.sub_self]; rfl
theorem set_mid {s g : Sto} {o u : Ob} : (s ++ (o :: g)).set s.length u = s ++ (u :: g) := by rw [List.set_append_right _ _ (Nat.le_refl _), Nat.sub_self]; rfl
theorem isl_ok {s : Sto} {i : Nat} {xs : List D} (h : s[i]? = some (.lst xs)) : isLstB s (.obj i) = true := by
  rw [isLst_of, lstAt_of h]; rfl
theorem ext_ok {s : Sto} {i : Nat} {a : RD} {xs ys : List D} (h : s[i]? = some (.lst xs)) (h2 : asM s a = some ys) (hl : xs.length + ys.length ≤ sizeLine) : m1R .extend (.obj i) a s = .ok (.d .non) (s.set i (.lst (xs ++ ys))) := by
  unfold m1R
  simp only
  rw [h]
  simp only
  rw [h2]
  simp only
  rw [if_pos hl]
theorem app_ok {s : Sto} {i : Nat} {d : D} {xs : List D} (h : s[i]? = some (.lst xs)) (hl : xs.length < sizeLine) : m1R .append (.obj i) (.d d) s = .ok (.d .non) (s.set i (.lst (xs ++ [d]))) := by
  unfold m1R
  simp only
  rw [h]
  simp only
  rw [if_pos hl]
theorem setSl_ok {s : Sto} {i j : Nat} {xs ys : List D} {a b : Nat} (h : s[i]? = some (.lst xs)) (h2 : s[j]? = some (.lst ys)) (hne : i ≠ j) (h3 : a ≤ b) (h4 : b ≤ xs.length) (h5 : xs.length + ys.length ≤ sizeLine) : setSlR (.obj i) (.obj j) (a : Int) (b : Int) s = .ok () (s.set i (.lst (xs.take a ++ ys ++ xs.drop b))) := by
  unfold setSlR
  simp only
  rw [h, h2]
  simp only
  rw [if_pos ⟨hne, by omega, by omega, by omega, h5⟩, Int.toNat_natCast, Int.toNat_natCast]
/-! pots: lists of whole numbers that calls change; only the pot at p is other -/
def potL (is : List Int) : Ob := .lst (is.map D.int)
/-- the third cell -/
def third (s : Sto) (p : Nat) : Int := match s[p]? with
  | some (.lst [_, _, .int e]) => e
  | _ => 0
/-- the pot has changed, in any way; the pot has changed, but not its third cell -/
def Pa (k p : Nat) (s s' : Sto) : Prop := ∃ is : List Int, is.length = k ∧ s' = s.set p (potL is)
def Pc (k p : Nat) (s s' : Sto) : Prop := Pa k p s s' ∧ third s' p = third s p
theorem Pc.a {k p : Nat} {s s' : Sto} (h : Pc k p s s') : Pa k p s s' := h.1
theorem Pc.third {k p : Nat} {s s' : Sto} (h : Pc k p s s') : Nv.third s' p = Nv.third s p := h.2
theorem Pa.trans {k p : Nat} {s s1 s2 : Sto} (h : Pa k p s s1) (g : Pa k p s1 s2) : Pa k p s s2 := by
  obtain ⟨a, _, rfl⟩ := h
  obtain ⟨c, e, rfl⟩ := g
  exact ⟨c, e, by rw [List.set_set]⟩
theorem Pc.trans {k p : Nat} {s s1 s2 : Sto} (h : Pc k p s s1) (g : Pc k p s1 s2) : Pc k p s s2 := ⟨h.1.trans g.1, by rw [g.2, h.2]⟩
theorem third_at {s : Sto} {p : Nat} {a b e : Int} (h : s[p]? = some (.lst [.int a, .int b, .int e])) : third s p = e := by unfold third; rw [h]
theorem third_set {s : Sto} {p : Nat} {a b e : Int} (h : p < s.length) : third (s.set p (potL [a, b, e])) p = e := third_at (List.getElem?_set_self h)
theorem third_app {s g : Sto} {p : Nat} (h : p < s.length) : third (s ++ g) p = third s p := by unfold third; rw [List.getElem?_append_left h]
theorem Pc.mk3 {s : Sto} {p : Nat} {a b e x y : Int} (h : s[p]? = some (.lst [.int a, .int b, .int e])) : Pc 3 p s (s.set p (potL [x, y, e])) :=
  ⟨⟨_, rfl, rfl⟩, by rw [third_set (List.getElem?_eq_some_iff.mp h).1, third_at h]⟩
structure PotAt (k p : Nat) (s : Sto) : Prop where
  clo : Clo s
  at_ : ∃ is : List Int, is.length = k ∧ s[p]? = some (potL is)
section
variable {k p : Nat} {s s' : Sto}
theorem PotAt.lt (h : PotAt k p s) : p < s.length := by
  obtain ⟨is, _, e⟩ := h.at_
  exact (List.getElem?_eq_some_iff.mp e).1
theorem PotAt.reflA (h : PotAt k p s) : Pa k p s s := by
  obtain ⟨is, l, e⟩ := h.at_
  obtain ⟨hl, e2⟩ := List.getElem?_eq_some_iff.mp e
  exact ⟨is, l, by rw [← e2, List.set_getElem_self]⟩
theorem PotAt.refl (h : PotAt k p s) : Pc k p s s := ⟨h.reflA, rfl⟩
theorem lt_ints {n : Nat} : ∀ is : List Int, D.ltAll n (is.map D.int) = true
  | [] => rfl
  | x :: r => by rw [List.map_cons]; unfold D.ltAll; rw [lt_ints r]; rfl
theorem Pa.at_ (h : Pa k p s s') (g : PotAt k p s) : PotAt k p s' := by
  have hl := g.lt
  obtain ⟨is, l, rfl⟩ := h
  exact ⟨g.clo.set (lt_ints is), is, l, List.getElem?_set_self hl⟩
theorem Pc.at_ (h : Pc k p s s') (g : PotAt k p s) : PotAt k p s' := h.a.at_ g
theorem Pa.len (h : Pa k p s s') : s'.length = s.length := by
  obtain ⟨is, _, rfl⟩ := h
  exact List.length_set
theorem Pc.len (h : Pc k p s s') : s'.length = s.length := h.a.len
theorem PotAt.fin {r : RD} {n : Nat} (h : PotAt k p s) (hn : s.length = n) (q : r.lt n = true) : Nv.fin n r s = .ok r s := fin_set hn h.clo q
theorem PotAt.push {o : Ob} (h : PotAt k p s) (q : o.lt (s.length + 1) = true) : PotAt k p (s ++ [o]) := by
  have hl := h.lt
  obtain ⟨is, l, e⟩ := h.at_
  exact ⟨h.clo.push q, is, l, by rw [List.getElem?_append_left hl]; exact e⟩
/-- the end of a call that has changed the pot alone, and made things that go -/
theorem fin_pc {s1 s2 g : Sto} (hp : PotAt k p s) (h1 : Pc k p s s1) (h2 : Pc k p (s1 ++ g) s2) : ∃ s3, Pc k p s s3 ∧ ∀ d : RD, d.lt s.length = true → Nv.fin s.length d s2 = .ok d s3 := by
  obtain ⟨⟨is, l, rfl⟩, ht⟩ := h2
  have hl : p < s1.length := by rw [h1.len]; exact hp.lt
  have h3 : Pc k p s (s1.set p (potL is)) := h1.trans ⟨⟨is, l, rfl⟩, by
    rw [List.set_append_left _ _ hl, third_app (by rw [List.length_set]; exact hl), third_app hl] at ht
    exact ht⟩
  refine ⟨_, h3, fun d hd => ?_⟩
  rw [List.set_append_left _ _ hl, ← h3.len]
  exact fin_g (h3.at_ hp).clo (by rw [h3.len]; exact hd)
/-- a comprehension that changes the pot alone -/
theorem cp_pot {β : Type} {cf : Nat → List D → Sto → Res RD} {g : Nat → Option D} {l : Loc} {tg : Tg} {elt : Ex} {R : D → D → Prop} {src : Option (Nat × List D)} : ∀ {ds acc : List D} {s : Sto}, PotAt k p s → acc.length + ds.length ≤ sizeLine → (∀ s1, Pc k p s s1 → srcOk src s1) →
    (∀ x ∈ ds, ∀ s1, PotAt k p s1 → Pc k p s s1 → ∃ y s2, Pc k p s1 s2 ∧ R x y ∧ ∀ K1 : D → Sto → Res β, btK (bindT tg x l) (fun l1 => evv cf g elt l1 s1 K1) = K1 y s2) →
      ∃ ys s', Pc k p s s' ∧ All2 R ds ys ∧ ∀ k : List D → Sto → Res β, cpK tg src (den cf g .nil).b (den cf g elt).v l ds acc s k = k (acc ++ ys) s'
  | [], acc, s, hp, _, hs, _ => ⟨[], s, hp.refl, .nil, fun k => by rw [cp_nil (hs s hp.refl), List.append_nil]⟩
  | x :: ds, acc, s, hp, hl, hs, h => by
    obtain ⟨y, s1, p1, r1, e1⟩ := h x (.head _) s hp hp.refl
    rw [List.length_cons] at hl
    obtain ⟨ys, s2, p2, r2, e2⟩ := cp_pot (ds := ds) (acc := acc ++ [y]) (p1.at_ hp) (by rw [List.length_append, List.length_singleton]; omega) (fun s3 h3 => hs s3 (p1.trans h3)) fun z hz s4 h4 h5 => h z (.tail _ hz) s4 h4 (p1.trans h5)
    refine ⟨y :: ys, s2, p1.trans p2, .cons r1 r2, fun k => ?_⟩
    have e0 : ∀ (G : Sto → Res β) (F : D → Sto → Res β), btK (bindT tg x l) (fun l1 => evb cf g .nil l1 s fun t s1 => if t = true then evv cf g elt l1 s1 F else G s1) = F y s1 := fun G F => by
      rw [← e1 F]
      cases bindT tg x l with
      | none => rfl
      | some l1 =>
        show evb cf g .nil l1 s _ = evv cf g elt l1 s F
        rw [evb_nil, if_pos rfl]
    rw [cp_cons (hs s hp.refl) (by omega) (e0 (fun _ => .no) _), e0 (fun s1 => cpK tg src (den cf g .nil).b (den cf g elt).v l ds acc s1 k), e2, List.append_assoc]
    rfl
/-- steps one behind the other, with what each does to the store -/
inductive AllS {α β : Type} (R : α → β → Sto → Sto → Prop) : List α → List β → Sto → Sto → Prop
  | nil {s : Sto} : AllS R [] [] s s
  | cons {a : α} {b : β} {as : List α} {bs : List β} {s s1 s2 : Sto} : R a b s s1 → AllS R as bs s1 s2 → AllS R (a :: as) (b :: bs) s s2
theorem cp_potA {β : Type} {cf : Nat → List D → Sto → Res RD} {g : Nat → Option D} {l : Loc} {tg : Tg} {elt : Ex} {R : D → D → Sto → Sto → Prop} {src : Option (Nat × List D)} : ∀ {ds acc : List D} {s : Sto}, PotAt k p s → acc.length + ds.length ≤ sizeLine → (∀ s1, Pa k p s s1 → srcOk src s1) →
    (∀ x ∈ ds, ∀ s1, PotAt k p s1 → Pa k p s s1 → ∃ y s2, Pa k p s1 s2 ∧ R x y s1 s2 ∧ ∀ K1 : D → Sto → Res β, btK (bindT tg x l) (fun l1 => evv cf g elt l1 s1 K1) = K1 y s2) →
      ∃ ys s', Pa k p s s' ∧ AllS R ds ys s s' ∧ ∀ k : List D → Sto → Res β, cpK tg src (den cf g .nil).b (den cf g elt).v l ds acc s k = k (acc ++ ys) s'
  | [], acc, s, hp, _, hs, _ => ⟨[], s, hp.reflA, .nil, fun k => by rw [cp_nil (hs s hp.reflA), List.append_nil]⟩
  | x :: ds, acc, s, hp, hl, hs, h => by
    obtain ⟨y, s1, p1, r1, e1⟩ := h x (.head _) s hp hp.reflA
    rw [List.length_cons] at hl
    obtain ⟨ys, s2, p2, r2, e2⟩ := cp_potA (ds := ds) (acc := acc ++ [y]) (p1.at_ hp) (by rw [List.length_append, List.length_singleton]; omega) (fun s3 h3 => hs s3 (p1.trans h3)) fun z hz s4 h4 h5 => h z (.tail _ hz) s4 h4 (p1.trans h5)
    refine ⟨y :: ys, s2, p1.trans p2, .cons r1 r2, fun k => ?_⟩
    have e0 : ∀ (G : Sto → Res β) (F : D → Sto → Res β), btK (bindT tg x l) (fun l1 => evb cf g .nil l1 s fun t s1 => if t = true then evv cf g elt l1 s1 F else G s1) = F y s1 := fun G F => by
      rw [← e1 F]
      cases bindT tg x l with
      | none => rfl
      | some l1 =>
        show evb cf g .nil l1 s _ = evv cf g elt l1 s F
        rw [evb_nil, if_pos rfl]
    rw [cp_cons (hs s hp.reflA) (by omega) (e0 (fun _ => .no) _), e0 (fun s1 => cpK tg src (den cf g .nil).b (den cf g elt).v l ds acc s1 k), e2, List.append_assoc]
    rfl
/-- another list stays -/
theorem src_stay {s1 : Sto} {xs : List D} (hp : p < s.length) (h : Pc k p (s ++ [.lst xs]) s1) : srcOk (some (s.length, xs)) s1 := by
  obtain ⟨⟨is, _, rfl⟩, _⟩ := h
  show (((s ++ [.lst xs] : Sto).set p (potL is))[s.length]?) = some (.lst xs)
  rw [List.getElem?_set_ne (by omega), List.getElem?_append_right (Nat.le_refl _), Nat.sub_self]
  rfl
end
end Nv

set_option maxRecDepth 100000
set_option autoImplicit false
set_option linter.all false
set_option maxHeartbeats 1000000
/-! NvQ: plain facts of questions: data with heads and parts, parts at places, exchange at a place. No program here. -/
namespace Nv
open PySem PySem.Spec PyProof.Rows L2
/-! ### data that lays, so deep -/
def Sh (n : Nat) (d : D) : Prop := ∃ p, (∀ g, pyW g d = some p) ∧ PyData.canLay0 p = true ∧ PyData.depth p ≤ n
theorem Sh.mono {m n : Nat} {d : D} (h : Sh m d) (l : m ≤ n) : Sh n d := by
  obtain ⟨p, h1, h2, h3⟩ := h
  exact ⟨p, h1, h2, by omega⟩
theorem sh_int {n : Nat} {i : Int} : Sh n (.int i) := ⟨.int i, fun g => rfl, rfl, Nat.zero_le _⟩
theorem sh_bl {n : Nat} {b : Bool} : Sh n (.bl b) := ⟨.bool b, fun g => rfl, rfl, Nat.zero_le _⟩
theorem shs {n : Nat} {x : Str} (h : PyData.canLay0 (.str x) = true) : Sh n (.str x) := ⟨.str x, fun g => rfl, h, Nat.zero_le _⟩
theorem sh_all {n : Nat} : ∀ {ds : List D}, (∀ d ∈ ds, Sh n d) → ∃ ps, (∀ g, pyWs g ds = some ps) ∧ PyData.canLayAll0 ps = true ∧ PyData.depthAll ps ≤ n
  | [], _ => ⟨[], fun g => rfl, rfl, Nat.zero_le _⟩
  | d :: r, h => by
    obtain ⟨p, h1, h2, h3⟩ := h d (.head _)
    obtain ⟨ps, g1, g2, g3⟩ := sh_all fun x hx => h x (.tail _ hx)
    refine ⟨p :: ps, fun g => by unfold pyWs; rw [h1 g]; show ((pyWs g r).map _) = _; rw [g1 g]; rfl, ?_, ?_⟩
    · unfold PyData.canLayAll0; rw [h2, g2]; rfl
    · unfold PyData.depthAll; exact Nat.max_le.mpr ⟨h3, g3⟩
theorem sh_tup {n : Nat} {ds : List D} (h : ∀ d ∈ ds, Sh n d) : Sh (n + 1) (.tup ds) := by
  obtain ⟨ps, g1, g2, g3⟩ := sh_all h
  refine ⟨.tuple ps, fun g => by unfold pyW; rw [g1 g]; rfl, ?_, ?_⟩
  · unfold PyData.canLay0; exact g2
  · unfold PyData.depth; omega
theorem Sh.py {n : Nat} {d : D} (h : Sh n d) : ∃ p, (∀ s, pyR s (.d d) = some p) ∧ PyData.canLay0 p = true ∧ PyData.depth p ≤ n := by
  obtain ⟨p, h1, h2, h3⟩ := h
  exact ⟨p, fun s => by show pyN s 3 d = some p; unfold pyN; exact h1 _, h2, h3⟩
theorem shaped_of {p : PyData} (h1 : PyData.canLay0 p = true) (h2 : PyData.depth p ≤ 64) : SeqAt.shaped p = true := by
  unfold SeqAt.shaped
  rw [h1, decide_eq_true h2]; rfl
theorem eq_same {s : Sto} {d : D} (h : Sh 64 d) : eqR s (.d d) (.d d) = some true := by
  obtain ⟨p, h1, h2, h3⟩ := h.py
  unfold eqR
  rw [h1 s]
  show (if SeqAt.shaped p = true ∧ SeqAt.shaped p = true then some (PyData.eqv p p) else _) = _
  rw [if_pos ⟨shaped_of h2 h3, shaped_of h2 h3⟩, SeqAt.eqv_refl p h2]
/-! ### heads and parts -/
inductive Hd where
  | leaf (w : Str) (d : D) | rcd (ns : List Str) | mat (ns : List (Str × Str)) | fld (w n : Str) | tag (k : List D) (n : Str) | bnd (w n : Str) | pln (w : Str)
def mkD : Hd → List D → D
  | .leaf w d, _ => .tup [.str w, d]
  | .rcd ns, cs => .tup [.str "record", .tup (List.zipWith (fun n c => D.tup [.str n, c]) ns cs)]
  | .mat ns, cs => .tup [.str "match", cs.headD .non, .tup (List.zipWith (fun (n : Str × Str) c => D.tup [.str n.1, .str n.2, c]) ns cs.tail)]
  | .fld w n, cs => .tup [.str w, cs.headD .non, .str n]
  | .tag k n, cs => .tup [.str "tag", .tup (.str "choice" :: k), .str n, cs.headD .non]
  | .bnd w n, cs => .tup (.str w :: .str n :: cs)
  | .pln w, cs => .tup (.str w :: cs)
def lv (x : Str) : Prop := PyData.canLay0 (.str x) = true
def fits : Hd → Nat → Prop
  | .leaf w d, k => k = 0 ∧ w ∈ (["number", "text", "truth", "name", "empty"] : List Str) ∧ Sh 8 d
  | .rcd ns, k => k = ns.length ∧ k ≤ 3 ∧ ∀ n ∈ ns, lv n
  | .mat ns, k => k = ns.length + 1 ∧ k ≤ 4 ∧ ∀ n ∈ ns, lv n.1 ∧ lv n.2
  | .fld w n, k => k = 1 ∧ w ∈ (["field", "case"] : List Str) ∧ lv n
  | .tag ks n, k => k = 1 ∧ Sh 8 (.tup (.str "choice" :: ks)) ∧ lv n
  | .bnd w n, k => k = 2 ∧ w ∈ (["let", "for", "sum"] : List Str) ∧ lv n
  | .pln w, k => 1 ≤ k ∧ k ≤ 3 ∧ w ∈ (["one", "unlike", "not", "plus", "add", "times", "alike", "below", "both", "if"] : List Str)
def IsQ : Nat → D → Prop
  | 0, _ => False
  | n + 1, d => ∃ h cs, d = mkD h cs ∧ fits h cs.length ∧ ∀ c ∈ cs, IsQ n c
theorem IsQ.mono : ∀ {m n : Nat} {d : D}, IsQ m d → m ≤ n → IsQ n d
  | 0, _, _, h, _ => h.elim
  | m + 1, 0, _, _, l => absurd l (by omega)
  | m + 1, n + 1, _, ⟨h, cs, e, f, q⟩, l => ⟨h, cs, e, f, fun c hc => (q c hc).mono (Nat.le_of_succ_le_succ l)⟩
theorem zw_mem {α β γ : Type} {f : α → β → γ} : ∀ {xs : List α} {ys : List β} {z : γ}, z ∈ List.zipWith f xs ys → ∃ x ∈ xs, ∃ y ∈ ys, z = f x y
  | [], _, _, h => by simp at h
  | _ :: _, [], _, h => by simp at h
  | x :: xs, y :: ys, z, h => by
    rw [List.zipWith_cons_cons] at h
    rcases List.mem_cons.mp h with q | q
    · exact ⟨x, .head _, y, .head _, q⟩
    · obtain ⟨a, ha, b, hb, e⟩ := zw_mem q
      exact ⟨a, .tail _ ha, b, .tail _ hb, e⟩
theorem one_of {α : Type} {xs : List α} (h : xs.length = 1) : ∃ x, xs = [x] := by
  match xs, h with
  | [x], _ => exact ⟨x, rfl⟩
theorem two_of {α : Type} {xs : List α} (h : xs.length = 2) : ∃ x y, xs = [x, y] := by
  match xs, h with
  | [x, y], _ => exact ⟨x, y, rfl⟩
theorem lay_words : ∀ x ∈ (["number", "text", "truth", "name", "empty", "field", "case", "let", "for", "sum", "record", "match", "tag", "choice", "bag", "one", "unlike", "not", "plus", "add", "times", "alike", "below", "both", "if"] : List Str), PyData.canLay0 (.str x) = true := by decide +kernel
theorem sh_word {n : Nat} {x : Str} (h : x ∈ (["number", "text", "truth", "name", "empty", "field", "case", "let", "for", "sum", "record", "match", "tag", "choice", "bag", "one", "unlike", "not", "plus", "add", "times", "alike", "below", "both", "if"] : List Str)) : Sh n (.str x) := shs (lay_words x h)
theorem IsQ.sh : ∀ {n : Nat} {d : D}, IsQ n d → Sh (3 * n + 8) d
  | 0, _, h => h.elim
  | n + 1, _, ⟨h, cs, e, f, q⟩ => by
    subst e
    have hc : ∀ c ∈ cs, Sh (3 * n + 8) c := fun c m => (q c m).sh
    have e3 : 3 * (n + 1) + 8 = (3 * n + 10) + 1 := by omega
    rw [e3]
    cases h with
    | leaf w d =>
      obtain ⟨_, f2, f3⟩ := f
      refine sh_tup fun x hx => ?_
      rcases List.mem_cons.mp hx with e | hx
      · subst e
        refine sh_word ?_
        simp only [List.mem_cons, List.not_mem_nil, or_false] at f2 ⊢
        rcases f2 with e | e | e | e | e <;> simp [e]
      · rw [List.mem_singleton.mp hx]; exact f3.mono (by omega)
    | rcd ns =>
      obtain ⟨f1, f2, f3⟩ := f
      refine sh_tup fun x hx => ?_
      rcases List.mem_cons.mp hx with e | hx
      · subst e; exact sh_word (by decide)
      · rw [List.mem_singleton.mp hx]
        refine sh_tup (n := 3 * n + 9) fun y hy => ?_
        obtain ⟨a, ha, b, hb, rfl⟩ := zw_mem hy
        refine sh_tup (n := 3 * n + 8) fun z hz => ?_
        rcases List.mem_cons.mp hz with e | hz
        · subst e; exact shs (f3 a ha)
        · rw [List.mem_singleton.mp hz]; exact hc b hb
    | mat ns =>
      obtain ⟨f1, f2, f3⟩ := f
      match cs, f1, hc with
      | c :: cs, f1, hc =>
        refine sh_tup fun x hx => ?_
        rcases List.mem_cons.mp hx with e | hx
        · subst e; exact sh_word (by decide)
        rcases List.mem_cons.mp hx with e | hx
        · rw [e]; exact (hc c (.head _)).mono (by omega)
        · rw [List.mem_singleton.mp hx]
          refine sh_tup (n := 3 * n + 9) fun y hy => ?_
          obtain ⟨a, ha, b, hb, rfl⟩ := zw_mem hy
          refine sh_tup (n := 3 * n + 8) fun z hz => ?_
          rcases List.mem_cons.mp hz with e | hz
          · subst e; exact shs (f3 a ha).1
          rcases List.mem_cons.mp hz with e | hz
          · subst e; exact shs (f3 a ha).2
          · rw [List.mem_singleton.mp hz]; exact hc b (.tail _ hb)
    | fld w nm =>
      obtain ⟨f1, f2, f3⟩ := f
      obtain ⟨c, rfl⟩ := one_of f1
      refine sh_tup fun x hx => ?_
      rcases List.mem_cons.mp hx with e | hx
      · subst e
        refine sh_word ?_
        simp only [List.mem_cons, List.not_mem_nil, or_false] at f2 ⊢
        rcases f2 with e | e <;> simp [e]
      rcases List.mem_cons.mp hx with e | hx
      · rw [e]; exact (hc c (.head _)).mono (by omega)
      · rw [List.mem_singleton.mp hx]; exact shs f3
    | tag k nm =>
      obtain ⟨f1, f2, f3⟩ := f
      obtain ⟨c, rfl⟩ := one_of f1
      refine sh_tup fun x hx => ?_
      rcases List.mem_cons.mp hx with e | hx
      · subst e; exact sh_word (by decide)
      rcases List.mem_cons.mp hx with e | hx
      · subst e; exact f2.mono (by omega)
      rcases List.mem_cons.mp hx with e | hx
      · subst e; exact shs f3
      · rw [List.mem_singleton.mp hx]; exact (hc c (.head _)).mono (by omega)
    | bnd w nm =>
      obtain ⟨f1, f2, f3⟩ := f
      refine sh_tup fun x hx => ?_
      rcases List.mem_cons.mp hx with e | hx
      · subst e
        refine sh_word ?_
        simp only [List.mem_cons, List.not_mem_nil, or_false] at f2 ⊢
        rcases f2 with e | e | e <;> simp [e]
      rcases List.mem_cons.mp hx with e | hx
      · subst e; exact shs f3
      · exact (hc x hx).mono (by omega)
    | pln w =>
      obtain ⟨f1, f2, f3⟩ := f
      refine sh_tup fun x hx => ?_
      rcases List.mem_cons.mp hx with e | hx
      · subst e
        refine sh_word ?_
        simp only [List.mem_cons, List.not_mem_nil, or_false] at f3 ⊢
        rcases f3 with e | e | e | e | e | e | e | e | e | e <;> simp [e]
      · exact (hc x hx).mono (by omega)
/-! ### questions as trees -/
inductive Q where
  | node (h : Hd) (cs : List Q)
mutual
def Q.toD : Q → D
  | .node h cs => mkD h (toDs cs)
def toDs : List Q → List D
  | [] => []
  | c :: r => c.toD :: toDs r
end
theorem toDs_map : ∀ cs : List Q, toDs cs = cs.map Q.toD
  | [] => rfl
  | c :: r => by rw [toDs, toDs_map r]; rfl
def Q.kids : Q → List Q
  | .node _ cs => cs
def Q.hd : Q → Hd
  | .node h _ => h
theorem Q.eta (q : Q) : Q.node q.hd q.kids = q := by cases q; rfl
theorem toD_node (q : Q) : q.toD = mkD q.hd (q.kids.map Q.toD) := by
  cases q
  rw [Q.toD, toDs_map]; rfl
def Q.ok : Nat → Q → Prop
  | 0, _ => False
  | n + 1, q => fits q.hd q.kids.length ∧ ∀ c ∈ q.kids, Q.ok n c
theorem Q.ok.mono : ∀ {m n : Nat} {q : Q}, Q.ok m q → m ≤ n → Q.ok n q
  | 0, _, _, h, _ => h.elim
  | m + 1, 0, _, _, l => absurd l (by omega)
  | m + 1, n + 1, _, ⟨f, k⟩, l => ⟨f, fun c hc => (k c hc).mono (Nat.le_of_succ_le_succ l)⟩
theorem Q.ok.isQ : ∀ {n : Nat} {q : Q}, Q.ok n q → IsQ n q.toD
  | 0, _, h => h.elim
  | n + 1, q, ⟨f, k⟩ => ⟨q.hd, q.kids.map Q.toD, toD_node q, by rw [List.length_map]; exact f, fun c hc => by
      obtain ⟨x, hx, rfl⟩ := List.mem_map.mp hc
      exact (k x hx).isQ⟩
theorem Q.ok.sh {n : Nat} {q : Q} (h : Q.ok n q) : Sh (3 * n + 8) q.toD := h.isQ.sh
/-- the part at a place -/
def getAt : Q → List Nat → Option Q
  | q, [] => some q
  | q, i :: p => (q.kids[i]?).bind fun c => getAt c p
/-- with another one at a place -/
def put (o : Q) : Q → List Nat → Q
  | _, [] => o
  | q, i :: p => match q.kids[i]? with
    | some c => .node q.hd (q.kids.set i (put o c p))
    | none => q
theorem getAt_cons {q : Q} {i : Nat} {p : List Nat} {d : Q} (h : getAt q (i :: p) = some d) : ∃ c, q.kids[i]? = some c ∧ getAt c p = some d := by
  unfold getAt at h
  cases e : q.kids[i]? with
  | none => rw [e] at h; cases h
  | some c => rw [e] at h; exact ⟨c, rfl, h⟩
theorem put_cons {o q c : Q} {i : Nat} {p : List Nat} (h : q.kids[i]? = some c) : put o q (i :: p) = .node q.hd (q.kids.set i (put o c p)) := by
  rw [put]; rw [h]
theorem set_at {α : Type} {xs : List α} {i : Nat} {x y : α} (h : xs[i]? = some x) : (xs.set i y)[i]? = some y := List.getElem?_set_self (List.getElem?_eq_some_iff.mp h).1
theorem get_put {o : Q} : ∀ {p : List Nat} {q c : Q}, getAt q p = some c → getAt (put o q p) p = some o
  | [], _, _, _ => rfl
  | i :: p, q, c, h => by
    obtain ⟨d, e, g⟩ := getAt_cons h
    rw [put_cons e]
    show ((q.kids.set i (put o d p))[i]?).bind _ = _
    rw [set_at e]
    exact get_put g
theorem get_app : ∀ {p r : List Nat} {q c : Q}, getAt q p = some c → getAt q (p ++ r) = getAt c r
  | [], _, _, _, h => by cases h; rfl
  | i :: p, r, q, c, h => by
    obtain ⟨d, e, g⟩ := getAt_cons h
    show (q.kids[i]?).bind _ = _
    rw [e]
    exact get_app g
theorem put_own : ∀ {p : List Nat} {q c : Q}, getAt q p = some c → put c q p = q
  | [], _, _, h => by cases h; rfl
  | i :: p, q, c, h => by
    obtain ⟨d, e, g⟩ := getAt_cons h
    rw [put_cons e, put_own g]
    obtain ⟨hl, e2⟩ := List.getElem?_eq_some_iff.mp e
    rw [← e2, List.set_getElem_self]
    exact q.eta
theorem put_twice {o t : Q} : ∀ {p : List Nat} {q c : Q}, getAt q p = some c → put t (put o q p) p = put t q p
  | [], _, _, _ => rfl
  | i :: p, q, c, h => by
    obtain ⟨d, e, g⟩ := getAt_cons h
    rw [put_cons e, put_cons (o := t) e, put_cons (c := put o d p) (by exact set_at e), put_twice g]
    show Q.node q.hd ((q.kids.set i _).set i _) = _
    rw [List.set_set]
theorem get_other {o : Q} : ∀ {p r : List Nat} {q c : Q}, getAt q p = some c → ¬ p <+: r → ¬ r <+: p → getAt (put o q p) r = getAt q r
  | [], r, _, _, _, h, _ => absurd (List.nil_prefix) h
  | _ :: _, [], _, _, _, _, h => absurd (List.nil_prefix) h
  | i :: p, j :: r, q, c, h, n1, n2 => by
    obtain ⟨d, e, g⟩ := getAt_cons h
    rw [put_cons e]
    show ((q.kids.set i (put o d p))[j]?).bind _ = (q.kids[j]?).bind _
    by_cases hij : i = j
    · subst hij
      rw [set_at e, e]
      exact get_other g (fun z => n1 (List.cons_prefix_cons.mpr ⟨rfl, z⟩)) fun z => n2 (List.cons_prefix_cons.mpr ⟨rfl, z⟩)
    · rw [List.getElem?_set_ne hij]
theorem put_comm {o t : Q} : ∀ {p r : List Nat} {q c d : Q}, getAt q p = some c → getAt q r = some d → ¬ p <+: r → ¬ r <+: p → put t (put o q p) r = put o (put t q r) p
  | [], r, _, _, _, _, _, h, _ => absurd (List.nil_prefix) h
  | _ :: _, [], _, _, _, _, _, _, h => absurd (List.nil_prefix) h
  | i :: p, j :: r, q, c, d, h, h', n1, n2 => by
    obtain ⟨x, e, g⟩ := getAt_cons h
    obtain ⟨y, e', g'⟩ := getAt_cons h'
    by_cases hij : i = j
    · subst hij
      rw [e] at e'
      cases e'
      rw [put_cons e, put_cons (o := t) e, put_cons (c := put o x p) (by exact set_at e), put_cons (c := put t x r) (by exact set_at e)]
      show Q.node q.hd ((q.kids.set i _).set i _) = Q.node q.hd ((q.kids.set i _).set i _)
      rw [List.set_set, List.set_set, put_comm g g' (fun z => n1 (List.cons_prefix_cons.mpr ⟨rfl, z⟩)) fun z => n2 (List.cons_prefix_cons.mpr ⟨rfl, z⟩)]
    · rw [put_cons e, put_cons (o := t) e']
      rw [put_cons (c := y) (by show (q.kids.set i _)[j]? = _; rw [List.getElem?_set_ne hij]; exact e'), put_cons (c := x) (by show (q.kids.set j _)[i]? = _; rw [List.getElem?_set_ne (Ne.symm hij)]; exact e)]
      show Q.node q.hd ((q.kids.set i _).set j _) = Q.node q.hd ((q.kids.set j _).set i _)
      rw [List.set_comm _ _ hij]
theorem fits_hd {q : Q} {cs : List Q} (h : cs.length = q.kids.length) (f : fits q.hd q.kids.length) : fits (Q.node q.hd cs).hd (Q.node q.hd cs).kids.length := by
  show fits q.hd cs.length
  rw [h]; exact f
theorem ok_put {m : Nat} {o : Q} (ho : Q.ok m o) : ∀ {n : Nat} {p : List Nat} {q c : Q}, Q.ok n q → getAt q p = some c → Q.ok (n + m) (put o q p)
  | 0, _, _, _, h, _ => h.elim
  | n + 1, [], _, _, _, _ => ho.mono (by omega)
  | n + 1, i :: p, q, c, h, g => by
    obtain ⟨d, e, g⟩ := getAt_cons g
    obtain ⟨f, k⟩ := h
    rw [put_cons e, Nat.succ_add]
    refine ⟨fits_hd List.length_set f, fun x hx => ?_⟩
    rcases List.mem_or_eq_of_mem_set hx with z | z
    · exact (k x z).mono (by omega)
    · rw [z]
      exact ok_put ho (k d (List.mem_of_getElem? e)) g
theorem ok_get : ∀ {n : Nat} {p : List Nat} {q c : Q}, Q.ok n q → getAt q p = some c → Q.ok n c
  | 0, _, _, _, h, _ => h.elim
  | n + 1, [], _, _, h, g => by cases g; exact h
  | n + 1, i :: p, q, c, h, g => by
    obtain ⟨d, e, g⟩ := getAt_cons g
    exact (ok_get (h.2 d (List.mem_of_getElem? e)) g).mono (by omega)
/-! ### all places -/
mutual
def Q.pls : Q → List (List Nat)
  | .node _ cs => plss 0 cs ++ [[]]
def plss : Nat → List Q → List (List Nat)
  | _, [] => []
  | k, c :: r => c.pls.map (k :: ·) ++ plss (k + 1) r
end
theorem pls_node (q : Q) : q.pls = plss 0 q.kids ++ [[]] := by cases q; rw [Q.pls]; rfl
def Q.sz (q : Q) : Nat := q.pls.length
def szs : List Q → Nat
  | [] => 0
  | c :: r => c.sz + szs r
theorem plss_len : ∀ (k : Nat) (cs : List Q), (plss k cs).length = szs cs
  | _, [] => by rw [plss]; rfl
  | k, c :: r => by rw [plss, List.length_append, List.length_map, plss_len (k + 1) r]; rfl
theorem sz_node (q : Q) : q.sz = szs q.kids + 1 := by
  unfold Q.sz
  rw [pls_node, List.length_append, plss_len]; rfl
theorem szs_set : ∀ {cs : List Q} {i : Nat} {c d : Q}, cs[i]? = some c → szs (cs.set i d) + c.sz = szs cs + d.sz
  | [], _, _, _, h => by cases h
  | x :: r, 0, c, d, h => by
    cases h
    show d.sz + szs r + x.sz = x.sz + szs r + d.sz
    omega
  | x :: r, i + 1, c, d, h => by
    have := szs_set (cs := r) (i := i) (d := d) h
    show x.sz + szs (r.set i d) + c.sz = x.sz + szs r + d.sz
    omega
theorem sz_put {o : Q} : ∀ {p : List Nat} {q c : Q}, getAt q p = some c → (put o q p).sz + c.sz = q.sz + o.sz
  | [], q, c, h => by cases h; rw [put]; omega
  | i :: p, q, c, h => by
    obtain ⟨d, e, g⟩ := getAt_cons h
    have h1 := sz_put (o := o) g
    have h2 := szs_set (d := put o d p) e
    rw [put_cons e, sz_node, sz_node q]
    show szs (q.kids.set i (put o d p)) + 1 + c.sz = _
    omega
theorem sz_pos (q : Q) : 1 ≤ q.sz := by rw [sz_node]; omega
theorem szs_mem : ∀ {cs : List Q} {c : Q}, c ∈ cs → c.sz ≤ szs cs
  | _ :: _, _, .head _ => by show _ ≤ _ + _; omega
  | _ :: _, _, .tail _ h => by
    have := szs_mem h
    show _ ≤ _ + _; omega
theorem sz_kid {q c : Q} (h : c ∈ q.kids) : c.sz < q.sz := by
  rw [sz_node q]
  have := szs_mem h
  omega
theorem sz_get : ∀ {p : List Nat} {q c : Q}, getAt q p = some c → c.sz ≤ q.sz
  | [], _, _, h => by cases h; exact Nat.le_refl _
  | i :: p, q, c, h => by
    obtain ⟨d, e, g⟩ := getAt_cons h
    have := sz_get g
    have := sz_kid (List.mem_of_getElem? e)
    omega
theorem plss_at : ∀ {k : Nat} {cs : List Q} {p : List Nat}, p ∈ plss k cs → ∃ i c r, cs[i]? = some c ∧ p = (k + i) :: r ∧ r ∈ c.pls
  | _, [], _, h => by rw [plss] at h; cases h
  | k, x :: cs, p, h => by
    rw [plss] at h
    rcases List.mem_append.mp h with h | h
    · obtain ⟨r, hr, rfl⟩ := List.mem_map.mp h
      exact ⟨0, x, r, rfl, rfl, hr⟩
    · obtain ⟨i, c, r, e, rfl, hr⟩ := plss_at h
      exact ⟨i + 1, c, r, e, by rw [Nat.succ_add_eq_add_succ], hr⟩
theorem pls_at : ∀ {p : List Nat} {q : Q}, p ∈ q.pls → ∃ c, getAt q p = some c
  | [], q, _ => ⟨q, rfl⟩
  | i :: p, q, h => by
    rw [pls_node] at h
    rcases List.mem_append.mp h with h | h
    · obtain ⟨j, c, r, e, e2, hr⟩ := plss_at h
      rw [Nat.zero_add] at e2
      cases e2
      obtain ⟨d, hd⟩ := pls_at hr
      exact ⟨d, by show (q.kids[i]?).bind _ = _; rw [e]; exact hd⟩
    · exact absurd (List.mem_singleton.mp h) (by simp)
theorem fits_few {h : Hd} {k : Nat} (f : fits h k) : k ≤ 4 := by
  cases h <;> simp only [fits] at f <;> omega
theorem szs_le {b : Nat} : ∀ {cs : List Q}, (∀ c ∈ cs, c.sz ≤ b) → szs cs ≤ cs.length * b
  | [], _ => Nat.zero_le _
  | c :: r, h => by
    have h1 := h c (.head _)
    have h2 := szs_le fun x hx => h x (.tail _ hx)
    show c.sz + szs r ≤ _
    rw [List.length_cons, Nat.succ_mul]
    omega
def most : Nat → Nat
  | 0 => 0
  | n + 1 => 4 * most n + 1
theorem sz_most : ∀ {n : Nat} {q : Q}, Q.ok n q → q.sz ≤ most n
  | 0, _, h => h.elim
  | n + 1, q, ⟨f, k⟩ => by
    have h1 := szs_le (b := most n) fun c hc => sz_most (k c hc)
    have h2 := Nat.mul_le_mul_right (most n) (fits_few f)
    rw [sz_node, most]
    omega
/-- a place is no longer than the tree is deep -/
theorem at_len : ∀ {n : Nat} {p : List Nat} {q c : Q}, Q.ok n q → getAt q p = some c → p.length < n
  | 0, _, _, _, h, _ => h.elim
  | n + 1, [], _, _, _, _ => by rw [List.length_nil]; omega
  | n + 1, i :: p, q, c, h, g => by
    obtain ⟨d, e, g⟩ := getAt_cons g
    have := at_len (h.2 d (List.mem_of_getElem? e)) g
    rw [List.length_cons]; omega
/-! ### words among words -/
theorem pyN_strs {s : Sto} {n : Nat} : ∀ ws : List Str, (ws.map D.str).mapM (pyN s (n + 1)) = some (ws.map PyData.str)
  | [] => rfl
  | w :: r => by
    rw [List.map_cons, List.mapM_cons, pyN_strs r]
    rfl
theorem lay_strs : ∀ {ws : List Str}, (∀ w ∈ ws, lv w) → PyData.canLayAll0 (ws.map PyData.str) = true ∧ PyData.depthAll (ws.map PyData.str) = 0
  | [], _ => ⟨rfl, rfl⟩
  | w :: r, h => by
    obtain ⟨h1, h2⟩ := lay_strs fun x hx => h x (.tail _ hx)
    rw [List.map_cons]
    unfold PyData.canLayAll0 PyData.depthAll
    have h3 : PyData.canLay0 (.str w) = true := h w (.head _)
    rw [h1, h2, h3]
    exact ⟨rfl, rfl⟩
theorem any_strs {x : Str} : ∀ ws : List Str, ((ws.map PyData.str).any fun z => PyData.eqv z (.str x)) = decide (x ∈ ws)
  | [] => rfl
  | w :: r => by
    rw [List.map_cons, List.any_cons, any_strs r]
    have e : PyData.eqv (.str w) (.str x) = decide (w = x) := by
      rw [← str_beq]; simp only [PyData.eqv]
    rw [e]
    by_cases h : w = x
    · subst h; simp
    · simp [h, Ne.symm h]
theorem in_strs {s : Sto} {x : Str} {ws : List Str} (hx : lv x) (hw : ∀ w ∈ ws, lv w) : inR s (.d (.str x)) (.d (.tup (ws.map D.str))) = some (decide (x ∈ ws)) ∧ inR s (.d (.str x)) (.l (ws.map D.str)) = some (decide (x ∈ ws)) := by
  have sx : SeqAt.shaped (.str x) = true := shaped_of hx (Nat.zero_le _)
  have sw : SeqAt.shaped (.list (ws.map PyData.str)) = true := by
    obtain ⟨h1, h2⟩ := lay_strs hw
    refine shaped_of (by unfold PyData.canLay0; exact h1) ?_
    unfold PyData.depth
    rw [h2]; decide
  have key : (match (some (ws.map D.str)).bind (fun ys => ys.mapM (pyN s 2)), pyR s (.d (.str x)) with
    | some qs, some x => if SeqAt.shaped x = true ∧ SeqAt.shaped (.list qs) = true then some (qs.any fun z => PyData.eqv z x) else none
    | _, _ => none) = some (decide (x ∈ ws)) := by
    show (match (ws.map D.str).mapM (pyN s 2), pyR s (.d (.str x)) with
      | some qs, some x => if SeqAt.shaped x = true ∧ SeqAt.shaped (.list qs) = true then some (qs.any fun z => PyData.eqv z x) else none
      | _, _ => none) = _
    rw [pyN_strs]
    show (if SeqAt.shaped (.str x) = true ∧ SeqAt.shaped (.list (ws.map PyData.str)) = true then some ((ws.map PyData.str).any fun z => PyData.eqv z (.str x)) else none) = _
    rw [if_pos ⟨sx, sw⟩, any_strs]
  exact ⟨key, key⟩
end Nv

set_option Elab.async false
set_option maxRecDepth 100000
set_option autoImplicit false
set_option linter.all false
set_option maxHeartbeats 1000000
/-! NvK: names, kinds, questions as drawn. No program here. -/
namespace Nv
open PySem PySem.Spec PyProof.Rows L2
/-- one to eight small letters -/
def letter (n : Nat) : Prop := 97 ≤ n ∧ n ≤ 122
instance (n : Nat) : Decidable (letter n) := by unfold letter; infer_instance
def NameOk (x : Str) : Prop := 1 ≤ x.cps.toList.length ∧ x.cps.toList.length ≤ 8 ∧ ∀ n ∈ x.cps.toList, letter n
instance (x : Str) : Decidable (NameOk x) := by unfold NameOk; infer_instance
def SignsOk (x : Str) : Prop := x.cps.toList.length ≤ 60 ∧ ∀ n ∈ x.cps.toList, 32 ≤ n ∧ n ≤ 126 ∧ n ≠ 37
theorem lv_of {x : Str} (h : ∀ n ∈ x.cps.toList, n < 1114112) : lv x := by
  show PyData.canLay0 (.str x) = true
  unfold PyData.canLay0 PyData.strOk
  rw [← Array.all_toList, List.all_eq_true]
  exact fun n hn => decide_eq_true (h n hn)
theorem NameOk.lv {x : Str} (h : NameOk x) : lv x := lv_of fun n hn => by have := (h.2.2 n hn).2; omega
theorem SignsOk.lv {x : Str} (h : SignsOk x) : lv x := lv_of fun n hn => by have := (h.2 n hn).2; omega
theorem str_len (x : Str) : x.length = x.cps.toList.length := by rw [Array.length_toList]; rfl
theorem app_cps (a b : Str) : (a ++ b).cps.toList = a.cps.toList ++ b.cps.toList := by
  show (a.cps ++ b.cps).toList = _
  rw [Array.toList_append]
def ltS (a b : Str) : Prop := a.cps.toList < b.cps.toList
theorem str_ext {a b : Str} (h : a.cps.toList = b.cps.toList) : a = b := by
  cases a; cases b
  exact congrArg Str.mk (Array.toList_inj.mp h)
/-- sorted, unlike -/
def Srt (xs : List Str) : Prop := xs.Pairwise ltS
theorem lt_of_le_ne {a b : Str} (h : leS a b = true) (n : a ≠ b) : ltS a b := by
  have h : a.cps.toList ≤ b.cps.toList := of_decide_eq_true h
  by_cases q : a.cps.toList < b.cps.toList
  · exact q
  · exact absurd (str_ext (List.le_antisymm h (List.not_lt.mp q))) n
theorem le_total (a b : Str) : (leS a b || leS b a) = true := by
  rcases List.le_total a.cps.toList b.cps.toList with p | p <;> simp [leS, p]
theorem le_trans' (a b c : Str) (h : leS a b = true) (g : leS b c = true) : leS a c = true := decide_eq_true (List.le_trans (of_decide_eq_true h) (of_decide_eq_true g))
theorem pw_and {α : Type} {R S : α → α → Prop} {l : List α} (h : l.Pairwise R) (g : l.Pairwise S) : l.Pairwise fun a b => R a b ∧ S a b := by
  induction l with
  | nil => exact .nil
  | cons a l ih =>
    obtain ⟨h1, h2⟩ := List.pairwise_cons.mp h
    obtain ⟨g1, g2⟩ := List.pairwise_cons.mp g
    exact List.pairwise_cons.mpr ⟨fun b hb => ⟨h1 b hb, g1 b hb⟩, ih h2 g2⟩
theorem sort_srt {xs : List Str} (h : xs.Nodup) : Srt (xs.mergeSort leS) :=
  (pw_and (List.pairwise_mergeSort (le := leS) le_trans' le_total xs) ((List.mergeSort_perm xs leS).nodup_iff.mpr h)).imp fun ⟨a, b⟩ => lt_of_le_ne a b
/-! kinds -/
mutual
inductive Kd where
  | leaf (x : Str) | bag (k : Kd) | rcd (rs : Ks) | cho (rs : Ks)
inductive Ks where
  | nil | cons (n : Str) (k : Kd) (r : Ks)
end
mutual
def kD : Kd → D
  | .leaf x => .tup [.str x]
  | .bag k => .tup [.str "bag", kD k]
  | .rcd rs => .tup [.str "record", .tup (ksD rs)]
  | .cho rs => .tup [.str "choice", .tup (ksD rs)]
def ksD : Ks → List D
  | .nil => []
  | .cons n k r => .tup [.str n, kD k] :: ksD r
end
def Ks.names : Ks → List Str
  | .nil => []
  | .cons n _ r => n :: r.names
mutual
def flatK : Kd → Prop
  | .leaf _ => True
  | .bag _ => False
  | .rcd rs => flatKs rs
  | .cho rs => flatKs rs
def flatKs : Ks → Prop
  | .nil => True
  | .cons _ k r => flatK k ∧ flatKs r
end
mutual
def gk : Kd → Prop
  | .leaf x => x ∈ (["number", "text", "truth"] : List Str)
  | .bag k => gk k
  | .rcd rs => gks rs ∧ Srt rs.names ∧ rs.names.length ≤ 8
  | .cho rs => gks rs ∧ Srt rs.names ∧ flatKs rs ∧ rs.names ≠ [] ∧ rs.names.length ≤ 8
def gks : Ks → Prop
  | .nil => True
  | .cons n k r => NameOk n ∧ gk k ∧ gks r
end
mutual
def dep : Kd → Nat
  | .leaf _ => 0
  | .bag k => dep k + 1
  | .rcd rs => deps rs + 1
  | .cho rs => deps rs + 1
def deps : Ks → Nat
  | .nil => 0
  | .cons _ k r => max (dep k) (deps r)
end
def KsAll (P : Kd → Prop) : Ks → Prop
  | .nil => True
  | .cons _ k r => P k ∧ KsAll P r
mutual
theorem kD_sh : ∀ k : Kd, gk k → Sh (3 * dep k + 1) (kD k)
  | .leaf x, h => by
    refine sh_tup (n := 0) fun d hd => ?_
    rw [List.mem_singleton.mp hd]
    refine sh_word ?_
    have h : x ∈ (["number", "text", "truth"] : List Str) := h
    simp only [List.mem_cons, List.not_mem_nil, or_false] at h ⊢
    rcases h with e | e | e <;> simp [e]
  | .bag k, h => by
    have e : 3 * dep (.bag k) + 1 = (3 * dep k + 3) + 1 := by show 3 * (dep k + 1) + 1 = _; omega
    rw [e]
    refine sh_tup fun d hd => ?_
    rcases List.mem_cons.mp hd with e | hd
    · subst e; exact sh_word (by decide)
    · rw [List.mem_singleton.mp hd]; exact (kD_sh k h).mono (by omega)
  | .rcd rs, h => by
    have e : 3 * dep (.rcd rs) + 1 = ((3 * deps rs + 2) + 1) + 1 := by show 3 * (deps rs + 1) + 1 = _; omega
    rw [e]
    refine sh_tup fun d hd => ?_
    rcases List.mem_cons.mp hd with e | hd
    · subst e; exact sh_word (by decide)
    · rw [List.mem_singleton.mp hd]
      exact sh_tup (ksD_sh rs h.1)
  | .cho rs, h => by
    have e : 3 * dep (.cho rs) + 1 = ((3 * deps rs + 2) + 1) + 1 := by show 3 * (deps rs + 1) + 1 = _; omega
    rw [e]
    refine sh_tup fun d hd => ?_
    rcases List.mem_cons.mp hd with e | hd
    · subst e; exact sh_word (by decide)
    · rw [List.mem_singleton.mp hd]
      exact sh_tup (ksD_sh rs h.1)
theorem ksD_sh : ∀ rs : Ks, gks rs → ∀ d ∈ ksD rs, Sh (3 * deps rs + 2) d
  | .nil, _, d, hd => by unfold ksD at hd; cases hd
  | .cons n k r, h, d, hd => by
    obtain ⟨h1, h2, h3⟩ := h
    have hm : deps (.cons n k r) = max (dep k) (deps r) := rfl
    unfold ksD at hd
    rcases List.mem_cons.mp hd with e | hd
    · rw [e]
      refine sh_tup (n := 3 * deps (.cons n k r) + 1) fun x hx => ?_
      rcases List.mem_cons.mp hx with e | hx
      · rw [e]; exact shs h1.lv
      · rw [List.mem_singleton.mp hx]; exact (kD_sh k h2).mono (by omega)
    · exact (ksD_sh r h3 d hd).mono (by omega)
end
/-- rows made of names -/
theorem rowsK {P : Kd → Prop} : ∀ {ns : List Str} {ys : List D}, All2 (fun x y => ∃ n k, x = D.str n ∧ y = D.tup [.str n, kD k] ∧ P k) (ns.map D.str) ys → ∃ rs, ys = ksD rs ∧ rs.names = ns ∧ KsAll P rs
  | [], _, h => by
    cases h
    exact ⟨.nil, rfl, rfl, trivial⟩
  | n :: ns, _, h => by
    rw [List.map_cons] at h
    cases h with
    | cons h1 t =>
      obtain ⟨n', k, e1, rfl, hk⟩ := h1
      cases e1
      obtain ⟨rs, rfl, e2, h2⟩ := rowsK t
      exact ⟨.cons n k rs, rfl, by rw [Ks.names, e2], hk, h2⟩
theorem rows_gk {fl : Prop} : ∀ {rs : Ks} {d : Nat}, KsAll (fun k => gk k ∧ (fl → flatK k) ∧ dep k ≤ d) rs → (∀ n ∈ rs.names, NameOk n) → gks rs ∧ (fl → flatKs rs) ∧ deps rs ≤ d
  | .nil, d, _, _ => ⟨trivial, fun _ => trivial, Nat.zero_le _⟩
  | .cons n k r, d, h, hn => by
    obtain ⟨⟨h1, h2, h3⟩, h4⟩ := h
    obtain ⟨g1, g2, g3⟩ := rows_gk h4 fun x hx => hn x (by unfold Ks.names; exact .tail _ hx)
    exact ⟨⟨hn n (by unfold Ks.names; exact .head _), h1, g1⟩, fun f => ⟨h2 f, g2 f⟩, Nat.max_le.mpr ⟨h3, g3⟩⟩
/-! questions as drawn -/
def arity (w : Str) : Nat := if w ∈ (["one", "unlike", "not"] : List Str) then 1 else if w = "if" then 3 else 2
def ghd : Hd → Nat → Prop
  | .leaf w d, _ => (w = "number" ∧ ∃ i : Int, d = .int i ∧ -(10 ^ 60) ≤ i ∧ i ≤ 10 ^ 60) ∨ (w = "text" ∧ ∃ x, d = .str x ∧ SignsOk x) ∨ (w = "truth" ∧ ∃ b, d = .bl b) ∨ (w = "empty" ∧ ∃ k, d = kD k ∧ gk k ∧ dep k ≤ 2) ∨ (w = "name" ∧ ∃ x, d = .str x ∧ NameOk x)
  | .rcd ns, _ => Srt ns ∧ ∀ n ∈ ns, NameOk n
  | .mat ns, _ => ns ≠ [] ∧ Srt (ns.map (·.1)) ∧ ∀ n ∈ ns, NameOk n.1 ∧ NameOk n.2
  | .fld _ x, _ => NameOk x
  | .tag k x, _ => NameOk x ∧ ∃ rs, k = [D.tup (ksD rs)] ∧ gk (.cho rs) ∧ dep (.cho rs) ≤ 2
  | .bnd _ x, _ => NameOk x
  | .pln w, n => n = arity w
def gq : Nat → Q → Prop
  | 0, _ => False
  | n + 1, q => fits q.hd q.kids.length ∧ ghd q.hd q.kids.length ∧ ∀ c ∈ q.kids, gq n c
theorem gq.ok : ∀ {n : Nat} {q : Q}, gq n q → Q.ok n q
  | 0, _, h => h.elim
  | n + 1, q, ⟨f, _, k⟩ => ⟨f, fun c hc => (k c hc).ok⟩
theorem gq.mono : ∀ {m n : Nat} {q : Q}, gq m q → m ≤ n → gq n q
  | 0, _, _, h, _ => h.elim
  | m + 1, 0, _, _, l => absurd l (by omega)
  | m + 1, n + 1, _, ⟨f, h, k⟩, l => ⟨f, h, fun c hc => (k c hc).mono (Nat.le_of_succ_le_succ l)⟩
theorem sz_ok9 {q : Q} (h : Q.ok 9 q) : q.sz ≤ 87381 := sz_most h
end Nv

set_option Elab.async false
set_option linter.all false
set_option maxRecDepth 100000
set_option autoImplicit false
/-! S2: functions that stand alike in the laws k21 to k28 -/
namespace Nv.S2
open PySem PySem.Spec PyProof.Rows L2
def b_p_parts (c g : Str → Nat) : Sm := (.cons (.set (.v 1) (.ix (.var 0) (.int 0))) (.cons (.ifs (.cmp .inn (.var 1) (.gc (g "LEAVES"))) (.cons (.ret
    (.lst .nil)) .nil) .nil) (.cons (.ifs (.cmp .eq (.var 1) (.str "record")) (.cons (.ret (.cp (.ix (.var 2)
    (.int 1)) (.v 2) (.ix (.var 0) (.int 1)) .nil [2])) .nil) .nil) (.cons (.ifs (.cmp .eq (.var 1) (.str
    "match")) (.cons (.ret (.bin .add (.lst (.cons (.ix (.var 0) (.int 1)) .nil)) (.cp (.ix (.var 2) (.int 2)) (.v
    2) (.ix (.var 0) (.int 2)) .nil [2]))) .nil) .nil) (.cons (.ifs (.or (.cmp .eq (.var 1) (.str "field")) (.cmp
    .eq (.var 1) (.str "case"))) (.cons (.ret (.lst (.cons (.ix (.var 0) (.int 1)) .nil))) .nil) .nil) (.cons
    (.ifs (.cmp .eq (.var 1) (.str "tag")) (.cons (.ret (.lst (.cons (.ix (.var 0) (.int 3)) .nil))) .nil) .nil)
    (.cons (.ifs (.cmp .inn (.var 1) (.gc (g "BINDING"))) (.cons (.ret (.lst (.cons (.ix (.var 0) (.int 2)) (.cons
    (.ix (.var 0) (.int 3)) .nil)))) .nil) .nil) (.cons (.ret (.b1 .list (.sl (.var 0) (.int 1) .nil)))
    .nil))))))))
def f_p_parts (c g : Str → Nat) : Fn := ⟨"parts", ["question"], ["question", "word", "row"], b_p_parts c g⟩
def b_p_with_parts (c g : Str → Nat) : Sm := (.cons (.set (.v 2) (.ix (.var 0) (.int 0))) (.cons (.ifs (.cmp .inn (.var 2) (.gc (g "LEAVES"))) (.cons (.ret
    (.var 0)) .nil) .nil) (.cons (.ifs (.cmp .eq (.var 2) (.str "record")) (.cons (.ret (.tup (.cons (.str
    "record") (.cons (.b1 .tuple (.cp (.tup (.cons (.ix (.var 4) (.int 0)) (.cons (.var 5) .nil))) (.c (.v 4) (.c
    (.v 5) .n)) (.i2 .zip (.ix (.var 0) (.int 1)) (.var 1)) .nil [4, 5])) .nil)))) .nil) .nil) (.cons (.ifs (.cmp
    .eq (.var 2) (.str "match")) (.cons (.set (.v 3) (.frz (.cp (.tup (.cons (.ix (.var 4) (.int 0)) (.cons (.ix
    (.var 4) (.int 1)) (.cons (.var 5) .nil)))) (.c (.v 4) (.c (.v 5) .n)) (.i2 .zip (.ix (.var 0) (.int 2)) (.sl
    (.var 1) (.int 1) .nil)) .nil [4, 5]))) (.cons (.ret (.tup (.cons (.str "match") (.cons (.ix (.var 1) (.int
    0)) (.cons (.b1 .tuple (.var 3)) .nil))))) .nil)) .nil) (.cons (.ifs (.or (.cmp .eq (.var 2) (.str "field"))
    (.cmp .eq (.var 2) (.str "case"))) (.cons (.ret (.tup (.cons (.var 2) (.cons (.ix (.var 1) (.int 0)) (.cons
    (.ix (.var 0) (.int 2)) .nil))))) .nil) .nil) (.cons (.ifs (.cmp .eq (.var 2) (.str "tag")) (.cons (.ret (.tup
    (.cons (.str "tag") (.cons (.ix (.var 0) (.int 1)) (.cons (.ix (.var 0) (.int 2)) (.cons (.ix (.var 1) (.int
    0)) .nil)))))) .nil) .nil) (.cons (.ifs (.cmp .inn (.var 2) (.gc (g "BINDING"))) (.cons (.ret (.tup (.cons
    (.var 2) (.cons (.ix (.var 0) (.int 1)) (.cons (.ix (.var 1) (.int 0)) (.cons (.ix (.var 1) (.int 1))
    .nil)))))) .nil) .nil) (.cons (.ret (.bin .add (.tup (.cons (.var 2) .nil)) (.b1 .tuple (.var 1))))
    .nil))))))))
def f_p_with_parts (c g : Str → Nat) : Fn := ⟨"with_parts", ["question", "some"], ["question", "some", "word", "rows", "row", "part"], b_p_with_parts c g⟩
def b_p_places (c g : Str → Nat) : Sm := (.cons (.set (.v 1) (.lst .nil)) (.cons (.for_ (.c (.v 2) (.c (.v 3) .n)) (.i1 .enumerate (.call (c "parts")
    (.cons (.var 0) .nil))) (.cons (.ex (.m1 .extend (.var 1) (.cp (.bin .add (.tup (.cons (.var 2) .nil)) (.var
    4)) (.v 4) (.call (c "places") (.cons (.var 3) .nil)) .nil [4]))) .nil)) (.cons (.ex (.m1 .append (.var 1)
    (.tup .nil))) (.cons (.ret (.var 1)) .nil))))
def f_p_places (c g : Str → Nat) : Fn := ⟨"places", ["question"], ["question", "found", "number", "part", "place"], b_p_places c g⟩
def b_p_part_of (c g : Str → Nat) : Sm := (.cons (.set (.v 2) (.frz (.call (c "parts") (.cons (.var 0) .nil)))) (.cons (.ifs (.or (.cmp .lt (.var 1)
    (.int 0)) (.cmp .ge (.var 1) (.b1 .len (.var 2)))) (.cons (.raise "NoPlace") .nil) .nil) (.cons (.ret (.ix (.var 2) (.var
    1))) .nil)))
def f_p_part_of (c g : Str → Nat) : Fn := ⟨"part_of", ["question", "number"], ["question", "number", "some"], b_p_part_of c g⟩
def b_p_part_at (c g : Str → Nat) : Sm := (.cons (.set (.v 2) (.var 0)) (.cons (.for_ (.v 3) (.var 1) (.cons (.set (.v 2) (.frz (.call (c "part_of")
    (.cons (.var 2) (.cons (.var 3) .nil))))) .nil)) (.cons (.ret (.var 2)) .nil)))
def f_p_part_at (c g : Str → Nat) : Fn := ⟨"part_at", ["question", "place"], ["question", "place", "here", "number"], b_p_part_at c g⟩
def b_p_with_part (c g : Str → Nat) : Sm := (.cons (.ifs (.cmp .eq (.var 1) (.tup .nil)) (.cons (.ret (.var 2)) .nil) .nil) (.cons (.set (.v 3) (.call (c
    "parts") (.cons (.var 0) .nil))) (.cons (.setSl (.var 3) (.ix (.var 1) (.int 0)) (.bin .add (.ix (.var 1)
    (.int 0)) (.int 1)) (.lst (.cons (.frz (.call (c "with_part") (.cons (.frz (.call (c "part_of") (.cons (.var
    0) (.cons (.ix (.var 1) (.int 0)) .nil)))) (.cons (.frz (.sl (.var 1) (.int 1) .nil)) (.cons (.var 2)
    .nil))))) .nil))) (.cons (.ret (.call (c "with_parts") (.cons (.var 0) (.cons (.var 3) .nil)))) .nil))))
def f_p_with_part (c g : Str → Nat) : Fn := ⟨"with_part", ["question", "place", "other"], ["question", "place", "other", "some"], b_p_with_part c g⟩
def b_cell (c g : Str → Nat) : Sm := (.cons (.ret (.ix (.bin .add (.sl (.var 0) (.var 1) (.bin .add (.var 1) (.int 1))) (.lst (.cons (.int 0)
    .nil))) (.int 0))) .nil)
def f_cell (c g : Str → Nat) : Fn := ⟨"_law_cell", ["_law_script", "_law_at"], ["_law_script", "_law_at"], b_cell c g⟩
def b_pot (c g : Str → Nat) : Sm := (.cons (.ret (.lst (.cons (.bin .mul (.var 0) (.b1 .int (.cmp .ge (.var 0) (.bin .pow (.int 10) (.int 18)))))
    (.cons (.bin .add (.bin .mod (.var 0) (.int 2147483629)) (.int 1)) (.cons (.var 1) .nil))))) .nil)
def f_pot (c g : Str → Nat) : Fn := ⟨"_law_pot", ["_law_cell_here", "_law_most"], ["_law_cell_here", "_law_most"], b_pot c g⟩
def b_digit (c g : Str → Nat) : Sm := (.cons (.ifs (.cmp .le (.ix (.var 0) (.int 0)) (.int 0)) (.cons (.setI (.var 0) (.int 1) (.bin .mod (.bin .add
    (.bin .mul (.ix (.var 0) (.int 1)) (.int 48271)) (.int 11)) (.int 2147483647))) (.cons (.ret (.bin .mod (.bin
    .mod (.bin .mul (.ix (.var 0) (.int 1)) (.ix (.var 0) (.int 1))) (.int 2147483629)) (.var 1))) .nil)) .nil)
    (.cons (.set (.v 2) (.bin .mod (.ix (.var 0) (.int 0)) (.var 1))) (.cons (.setI (.var 0) (.int 0) (.bin .fdiv
    (.ix (.var 0) (.int 0)) (.var 1))) (.cons (.ret (.var 2)) .nil))))
def f_digit (c g : Str → Nat) : Fn := ⟨"_law_digit", ["_law_pot_here", "_law_many"], ["_law_pot_here", "_law_many", "_law_digit_here"], b_digit c g⟩
def b_name (c g : Str → Nat) : Sm := (.cons (.ifs (.cmp .gt (.call (c "_law_digit") (.cons (.var 0) (.cons (.int 3) .nil))) (.int 0)) (.cons (.ret
    (.ix (.lst (.cons (.str "x") (.cons (.str "y") (.cons (.str "a") (.cons (.str "yes") (.cons (.str "no") (.cons
    (.str "if") (.cons (.str "rows") (.cons (.str "key") .nil))))))))) (.call (c "_law_digit") (.cons (.var 0)
    (.cons (.int 8) .nil))))) .nil) .nil) (.cons (.set (.v 1) (.str "")) (.cons (.for_ (.v 2) (.i1 .range (.bin
    .add (.int 1) (.call (c "_law_digit") (.cons (.var 0) (.cons (.int 8) .nil))))) (.cons (.set (.v 1) (.bin .add
    (.var 1) (.ix (.str "abcdefghijklmnopqrstuvwxyz") (.call (c "_law_digit") (.cons (.var 0) (.cons (.int 26)
    .nil)))))) .nil)) (.cons (.ret (.var 1)) .nil))))
def f_name (c g : Str → Nat) : Fn := ⟨"_law_name", ["_law_pot_here"], ["_law_pot_here", "_law_name_here", "_law_k"], b_name c g⟩
def b_names (c g : Str → Nat) : Sm := (.cons (.set (.v 2) .dnew) (.cons (.for_ (.v 3) (.i1 .range (.var 1)) (.cons (.setI (.var 2) (.call (c
    "_law_name") (.cons (.var 0) .nil)) (.bl true)) .nil)) (.cons (.ret (.b1 .sorted (.var 2))) .nil)))
def f_names (c g : Str → Nat) : Fn := ⟨"_law_names", ["_law_pot_here", "_law_many"], ["_law_pot_here", "_law_many", "_law_found", "_law_k"], b_names c g⟩
def b_kind (c g : Str → Nat) : Sm := (.cons (.set (.v 3) (.frz (.call (c "_law_digit") (.cons (.var 0) (.cons (.int 6) .nil))))) (.cons (.ifs (.cmp
    .eq (.var 1) (.int 0)) (.cons (.set (.v 3) (.bin .mod (.var 3) (.int 3))) .nil) .nil) (.cons (.ifs (.cmp .lt
    (.var 3) (.int 3)) (.cons (.ret (.tup (.cons (.ix (.lst (.cons (.str "number") (.cons (.str "text") (.cons
    (.str "truth") .nil)))) (.var 3)) .nil))) .nil) .nil) (.cons (.ifs (.and (.cmp .eq (.var 3) (.int 5)) (.nt
    (.var 2))) (.cons (.ret (.tup (.cons (.str "bag") (.cons (.frz (.call (c "_law_kind") (.cons (.var 0) (.cons
    (.bin .sub (.var 1) (.int 1)) (.cons (.bl false) .nil))))) .nil)))) .nil) .nil) (.cons (.ifs (.cmp .eq (.var
    3) (.int 4)) (.cons (.set (.v 4) (.frz (.call (c "_law_names") (.cons (.var 0) (.cons (.frz (.bin .add (.int
    1) (.call (c "_law_digit") (.cons (.var 0) (.cons (.int 3) .nil))))) .nil))))) (.cons (.ret (.tup (.cons (.str
    "choice") (.cons (.b1 .tuple (.cp (.tup (.cons (.var 5) (.cons (.frz (.call (c "_law_kind") (.cons (.var 0)
    (.cons (.bin .sub (.var 1) (.int 1)) (.cons (.bl true) .nil))))) .nil))) (.v 5) (.var 4) .nil [5])) .nil))))
    .nil)) .nil) (.cons (.set (.v 4) (.frz (.call (c "_law_names") (.cons (.var 0) (.cons (.frz (.call (c
    "_law_digit") (.cons (.var 0) (.cons (.int 4) .nil)))) .nil))))) (.cons (.ret (.tup (.cons (.str "record")
    (.cons (.b1 .tuple (.cp (.tup (.cons (.var 5) (.cons (.frz (.call (c "_law_kind") (.cons (.var 0) (.cons (.bin
    .sub (.var 1) (.int 1)) (.cons (.var 2) .nil))))) .nil))) (.v 5) (.var 4) .nil [5])) .nil)))) .nil)))))))
def f_kind (c g : Str → Nat) : Fn := ⟨"_law_kind", ["_law_pot_here", "_law_deep", "_law_flat"], ["_law_pot_here", "_law_deep", "_law_flat", "_law_way", "_law_names_here", "_law_name_here"], b_kind c g⟩
def b_choice (c g : Str → Nat) : Sm := (.cons (.set (.v 1) (.frz (.call (c "_law_names") (.cons (.var 0) (.cons (.frz (.bin .add (.int 1) (.call (c
    "_law_digit") (.cons (.var 0) (.cons (.int 3) .nil))))) .nil))))) (.cons (.ret (.tup (.cons (.str "choice")
    (.cons (.b1 .tuple (.cp (.tup (.cons (.var 2) (.cons (.frz (.call (c "_law_kind") (.cons (.var 0) (.cons (.int
    1) (.cons (.bl true) .nil))))) .nil))) (.v 2) (.var 1) .nil [2])) .nil)))) .nil))
def f_choice (c g : Str → Nat) : Fn := ⟨"_law_choice", ["_law_pot_here"], ["_law_pot_here", "_law_names_here", "_law_name_here"], b_choice c g⟩
def b_signs (c g : Str → Nat) : Sm := (.cons (.set (.v 1) (.str
    "\x20!\"#$&'()*+,-./0123456789:;<=>?@ABCDEFGHIJKLMNOPQRSTUVWXYZ[\\]^_`abcdefghijklmnopqrstuvwxyz{|}~")) (.cons
    (.set (.v 2) (.str "")) (.cons (.for_ (.v 3) (.i1 .range (.call (c "_law_digit") (.cons (.var 0) (.cons (.ix
    (.lst (.cons (.int 5) (.cons (.int 5) (.cons (.int 5) (.cons (.int 61) .nil))))) (.call (c "_law_digit")
    (.cons (.var 0) (.cons (.int 4) .nil)))) .nil)))) (.cons (.set (.v 2) (.bin .add (.var 2) (.ix (.var 1) (.call
    (c "_law_digit") (.cons (.var 0) (.cons (.b1 .len (.var 1)) .nil)))))) .nil)) (.cons (.ret (.var 2)) .nil))))
def f_signs (c g : Str → Nat) : Fn := ⟨"_law_signs", ["_law_pot_here"], ["_law_pot_here", "_law_signs_here", "_law_found", "_law_k"], b_signs c g⟩
def b_leaf (c g : Str → Nat) : Sm := (.cons (.ifs (.cmp .eq (.var 1) (.int 0)) (.cons (.ifs (.cmp .eq (.call (c "_law_digit") (.cons (.var 0)
    (.cons (.int 2) .nil))) (.int 0)) (.cons (.ret (.tup (.cons (.str "number") (.cons (.bin .sub (.call (c
    "_law_digit") (.cons (.var 0) (.cons (.int 19) .nil))) (.int 9)) .nil)))) .nil) .nil) (.cons (.ret (.tup
    (.cons (.str "number") (.cons (.bin .add (.bin .sub (.call (c "_law_digit") (.cons (.var 0) (.cons (.bin .sub
    (.bin .mul (.int 2) (.bin .pow (.int 10) (.int 60))) (.int 1)) .nil))) (.bin .pow (.int 10) (.int 60))) (.int
    1)) .nil)))) .nil)) .nil) (.cons (.ifs (.cmp .eq (.var 1) (.int 1)) (.cons (.ret (.tup (.cons (.str "text")
    (.cons (.frz (.call (c "_law_signs") (.cons (.var 0) .nil))) .nil)))) .nil) .nil) (.cons (.ifs (.cmp .eq (.var
    1) (.int 2)) (.cons (.ret (.tup (.cons (.str "truth") (.cons (.cmp .eq (.call (c "_law_digit") (.cons (.var 0)
    (.cons (.int 2) .nil))) (.int 1)) .nil)))) .nil) .nil) (.cons (.ifs (.cmp .eq (.var 1) (.int 3)) (.cons (.ret
    (.tup (.cons (.str "empty") (.cons (.frz (.call (c "_law_kind") (.cons (.var 0) (.cons (.int 2) (.cons (.bl
    false) .nil))))) .nil)))) .nil) .nil) (.cons (.ret (.tup (.cons (.str "name") (.cons (.frz (.call (c
    "_law_name") (.cons (.var 0) .nil))) .nil)))) .nil)))))
def f_leaf (c g : Str → Nat) : Fn := ⟨"_law_leaf", ["_law_pot_here", "_law_way"], ["_law_pot_here", "_law_way"], b_leaf c g⟩
def b_rowed (c g : Str → Nat) : Sm := (.cons (.ifs (.cmp .eq (.var 2) (.int 0)) (.cons (.set (.v 4) (.frz (.call (c "_law_names") (.cons (.var 0)
    (.cons (.frz (.call (c "_law_digit") (.cons (.var 0) (.cons (.int 4) .nil)))) .nil))))) (.cons (.ret (.tup
    (.cons (.str "record") (.cons (.b1 .tuple (.cp (.tup (.cons (.var 5) (.cons (.frz (.call (c "_law_question")
    (.cons (.var 0) (.cons (.var 1) .nil)))) .nil))) (.v 5) (.var 4) .nil [5])) .nil)))) .nil)) .nil) (.cons (.ifs
    (.cmp .eq (.var 2) (.int 1)) (.cons (.ret (.tup (.cons (.str "field") (.cons (.frz (.call (c "_law_question")
    (.cons (.var 0) (.cons (.var 1) .nil)))) (.cons (.frz (.call (c "_law_name") (.cons (.var 0) .nil))) .nil)))))
    .nil) .nil) (.cons (.ifs (.cmp .eq (.var 2) (.int 2)) (.cons (.ret (.tup (.cons (.str "case") (.cons (.frz
    (.call (c "_law_question") (.cons (.var 0) (.cons (.var 1) .nil)))) (.cons (.frz (.call (c "_law_name") (.cons
    (.var 0) .nil))) .nil))))) .nil) .nil) (.cons (.ifs (.cmp .eq (.var 2) (.int 3)) (.cons (.ret (.tup (.cons
    (.str "tag") (.cons (.frz (.call (c "_law_choice") (.cons (.var 0) .nil))) (.cons (.frz (.call (c "_law_name")
    (.cons (.var 0) .nil))) (.cons (.frz (.call (c "_law_question") (.cons (.var 0) (.cons (.var 1) .nil))))
    .nil)))))) .nil) .nil) (.cons (.set (.v 3) (.frz (.call (c "_law_question") (.cons (.var 0) (.cons (.var 1)
    .nil))))) (.cons (.set (.v 4) (.frz (.call (c "_law_names") (.cons (.var 0) (.cons (.frz (.bin .add (.int 1)
    (.call (c "_law_digit") (.cons (.var 0) (.cons (.int 3) .nil))))) .nil))))) (.cons (.ret (.tup (.cons (.str
    "match") (.cons (.var 3) (.cons (.b1 .tuple (.cp (.tup (.cons (.var 5) (.cons (.frz (.call (c "_law_name")
    (.cons (.var 0) .nil))) (.cons (.frz (.call (c "_law_question") (.cons (.var 0) (.cons (.var 1) .nil))))
    .nil)))) (.v 5) (.var 4) .nil [5])) .nil))))) .nil)))))))
def f_rowed (c g : Str → Nat) : Fn := ⟨"_law_rowed", ["_law_pot_here", "_law_deep", "_law_way"], ["_law_pot_here", "_law_deep", "_law_way", "_law_asked", "_law_names_here", "_law_name_here"], b_rowed c g⟩
def b_question (c g : Str → Nat) : Sm := (.cons (.setI (.var 0) (.int 2) (.bin .sub (.ix (.var 0) (.int 2)) (.int 1))) (.cons (.set (.v 2) (.frz (.call
    (c "_law_digit") (.cons (.var 0) (.cons (.int 24) .nil))))) (.cons (.ifs (.or (.cmp .eq (.var 1) (.int 0))
    (.or (.cmp .lt (.ix (.var 0) (.int 2)) (.int 0)) (.cmp .lt (.var 2) (.int 6)))) (.cons (.ret (.call (c
    "_law_leaf") (.cons (.var 0) (.cons (.bin .mod (.var 2) (.int 6)) .nil)))) .nil) .nil) (.cons (.ifs (.cmp .lt
    (.var 2) (.int 11)) (.cons (.ret (.call (c "_law_rowed") (.cons (.var 0) (.cons (.bin .sub (.var 1) (.int 1))
    (.cons (.bin .sub (.var 2) (.int 6)) .nil))))) .nil) .nil) (.cons (.ifs (.cmp .lt (.var 2) (.int 14)) (.cons
    (.set (.v 3) (.ix (.lst (.cons (.str "let") (.cons (.str "for") (.cons (.str "sum") .nil)))) (.bin .sub (.var
    2) (.int 11)))) (.cons (.ret (.tup (.cons (.var 3) (.cons (.frz (.call (c "_law_name") (.cons (.var 0) .nil)))
    (.cons (.frz (.call (c "_law_question") (.cons (.var 0) (.cons (.bin .sub (.var 1) (.int 1)) .nil)))) (.cons
    (.frz (.call (c "_law_question") (.cons (.var 0) (.cons (.bin .sub (.var 1) (.int 1)) .nil)))) .nil))))))
    .nil)) .nil) (.cons (.set (.v 3) (.ix (.lst (.cons (.str "one") (.cons (.str "unlike") (.cons (.str "not")
    (.cons (.str "plus") (.cons (.str "add") (.cons (.str "times") (.cons (.str "alike") (.cons (.str "below")
    (.cons (.str "both") (.cons (.str "if") .nil))))))))))) (.bin .sub (.var 2) (.int 14)))) (.cons (.set (.v 4)
    (.ix (.lst (.cons (.int 1) (.cons (.int 1) (.cons (.int 1) (.cons (.int 2) (.cons (.int 2) (.cons (.int 2)
    (.cons (.int 2) (.cons (.int 2) (.cons (.int 2) (.cons (.int 3) .nil))))))))))) (.bin .sub (.var 2) (.int
    14)))) (.cons (.ret (.bin .add (.tup (.cons (.var 3) .nil)) (.b1 .tuple (.cp (.frz (.call (c "_law_question")
    (.cons (.var 0) (.cons (.bin .sub (.var 1) (.int 1)) .nil)))) (.v 5) (.i1 .range (.var 4)) .nil [5]))))
    .nil))))))))
def f_question (c g : Str → Nat) : Fn := ⟨"_law_question", ["_law_pot_here", "_law_deep"], ["_law_pot_here", "_law_deep", "_law_way", "_law_word", "_law_many", "_law_k"], b_question c g⟩
def b_parts (c g : Str → Nat) : Sm := (.cons (.set (.v 1) (.ix (.var 0) (.int 0))) (.cons (.ifs (.cmp .inn (.var 1) (.lst (.cons (.str "number")
    (.cons (.str "text") (.cons (.str "truth") (.cons (.str "name") (.cons (.str "empty") .nil))))))) (.cons (.ret
    (.lst .nil)) .nil) .nil) (.cons (.ifs (.cmp .eq (.var 1) (.str "record")) (.cons (.ret (.cp (.var 2) (.c (.v
    3) (.c (.v 2) .n)) (.ix (.var 0) (.int 1)) .nil [3, 2])) .nil) .nil) (.cons (.ifs (.cmp .eq (.var 1) (.str
    "match")) (.cons (.ret (.bin .add (.lst (.cons (.ix (.var 0) (.int 1)) .nil)) (.cp (.var 2) (.c (.v 3) (.c (.v
    4) (.c (.v 2) .n))) (.ix (.var 0) (.int 2)) .nil [3, 4, 2]))) .nil) .nil) (.cons (.ret (.cp (.var 2) (.v 2)
    (.sl (.var 0) (.int 1) .nil) (.and (.isin (.var 2) .tuple) (.cmp .ne (.ix (.var 2) (.int 0)) (.str "choice")))
    [2])) .nil)))))
def f_parts (c g : Str → Nat) : Fn := ⟨"_law_parts", ["_law_question_here"], ["_law_question_here", "_law_word", "_law_part", "_law_name_here", "_law_x"], b_parts c g⟩
def b_places (c g : Str → Nat) : Sm := (.cons (.set (.v 1) (.frz (.lst .nil))) (.cons (.for_ (.c (.v 2) (.c (.v 3) .n)) (.i1 .enumerate (.call (c
    "_law_parts") (.cons (.var 0) .nil))) (.cons (.set (.v 1) (.frz (.bin .add (.var 1) (.cp (.bin .add (.tup
    (.cons (.var 2) .nil)) (.var 4)) (.v 4) (.call (c "_law_places") (.cons (.var 3) .nil)) .nil [4])))) .nil))
    (.cons (.ret (.bin .add (.var 1) (.lst (.cons (.tup .nil) .nil)))) .nil)))
def f_places (c g : Str → Nat) : Fn := ⟨"_law_places", ["_law_question_here"], ["_law_question_here", "_law_found", "_law_number", "_law_part", "_law_place"], b_places c g⟩
def b_with (c g : Str → Nat) : Sm := (.cons (.ifs (.cmp .eq (.var 1) (.tup .nil)) (.cons (.ret (.var 2)) .nil) .nil) (.cons (.set (.v 3) (.ix (.var
    0) (.int 0))) (.cons (.set (.v 4) (.ix (.var 1) (.int 0))) (.cons (.ifs (.cmp .eq (.var 3) (.str "record"))
    (.cons (.set (.v 6) (.b1 .list (.ix (.var 0) (.int 1)))) (.cons (.setI (.var 6) (.var 4) (.tup (.cons (.ix
    (.ix (.var 6) (.var 4)) (.int 0)) (.cons (.frz (.call (c "_law_with") (.cons (.ix (.ix (.var 6) (.var 4))
    (.int 1)) (.cons (.frz (.sl (.var 1) (.int 1) .nil)) (.cons (.var 2) .nil))))) .nil)))) (.cons (.ret (.tup
    (.cons (.str "record") (.cons (.b1 .tuple (.var 6)) .nil)))) .nil))) .nil) (.cons (.ifs (.and (.cmp .eq (.var
    3) (.str "match")) (.cmp .gt (.var 4) (.int 0))) (.cons (.set (.v 6) (.b1 .list (.ix (.var 0) (.int 2))))
    (.cons (.set (.c (.v 7) (.c (.v 8) (.c (.v 9) .n))) (.ix (.var 6) (.bin .sub (.var 4) (.int 1)))) (.cons
    (.setI (.var 6) (.bin .sub (.var 4) (.int 1)) (.tup (.cons (.var 7) (.cons (.var 8) (.cons (.frz (.call (c
    "_law_with") (.cons (.var 9) (.cons (.frz (.sl (.var 1) (.int 1) .nil)) (.cons (.var 2) .nil))))) .nil)))))
    (.cons (.ret (.tup (.cons (.str "match") (.cons (.ix (.var 0) (.int 1)) (.cons (.b1 .tuple (.var 6)) .nil)))))
    .nil)))) .nil) (.cons (.set (.v 5) (.bin .add (.int 1) (.var 4))) (.cons (.ifs (.cmp .inn (.var 3) (.lst
    (.cons (.str "let") (.cons (.str "for") (.cons (.str "sum") .nil))))) (.cons (.set (.v 5) (.bin .add (.int 2)
    (.var 4))) .nil) .nil) (.cons (.ifs (.cmp .eq (.var 3) (.str "tag")) (.cons (.set (.v 5) (.int 3)) .nil) .nil)
    (.cons (.ret (.bin .add (.bin .add (.sl (.var 0) .nil (.var 5)) (.tup (.cons (.frz (.call (c "_law_with")
    (.cons (.ix (.var 0) (.var 5)) (.cons (.frz (.sl (.var 1) (.int 1) .nil)) (.cons (.var 2) .nil))))) .nil)))
    (.sl (.var 0) (.bin .add (.var 5) (.int 1)) .nil))) .nil)))))))))
def f_with (c g : Str → Nat) : Fn := ⟨"_law_with", ["_law_question_here", "_law_place", "_law_other"], ["_law_question_here", "_law_place", "_law_other", "_law_word", "_law_number", "_law_at", "_law_rows", "_law_name_here", "_law_x", "_law_part"], b_with c g⟩
end Nv.S2

set_option Elab.async false
set_option maxRecDepth 100000
set_option autoImplicit false
set_option linter.all false
set_option maxHeartbeats 2000000
/-! S2a: parts, with_parts and what goes by them -/
namespace Nv
open PySem PySem.Spec PyProof.Rows L2
mutual
theorem pyW_lt {n : Nat} : ∀ {d : D} {p : PyData}, pyW (fun _ => none) d = some p → d.lt n = true
  | .non, _, _ => rfl
  | .bl _, _, _ => rfl
  | .int _, _, _ => rfl
  | .str _, _, _ => rfl
  | .tup xs, p, h => by
    unfold pyW at h
    obtain ⟨q, h1, _⟩ := Option.map_eq_some_iff.mp h
    unfold D.lt; exact pyWs_lt h1
  | .lf xs, p, h => by
    unfold pyW at h
    obtain ⟨q, h1, _⟩ := Option.map_eq_some_iff.mp h
    unfold D.lt; exact pyWs_lt h1
  | .obj i, p, h => by unfold pyW at h; cases h
theorem pyWs_lt {n : Nat} : ∀ {ds : List D} {ps : List PyData}, pyWs (fun _ => none) ds = some ps → D.ltAll n ds = true
  | [], _, _ => rfl
  | d :: r, ps, h => by
    unfold pyWs at h
    obtain ⟨q, h1, h2⟩ := Option.bind_eq_some_iff.mp h
    obtain ⟨qs, h3, _⟩ := Option.map_eq_some_iff.mp h2
    unfold D.ltAll; rw [pyW_lt h1, pyWs_lt h3]; rfl
end
theorem Sh.lt {n m : Nat} {d : D} (h : Sh n d) : d.lt m = true := by
  obtain ⟨p, h1, _⟩ := h
  exact pyW_lt (h1 _)
end Nv
namespace Nv.S2
open PySem PySem.Spec PyProof.Rows L2
variable {T : Tab} {c g : Str → Nat}
abbrev leafW : List Str := ["number", "text", "truth", "name", "empty"]
abbrev bindW : List Str := ["let", "for", "sum"]
abbrev words : List Str := ["number", "text", "truth", "name", "empty", "field", "case", "let", "for", "sum", "record", "match", "tag", "choice", "bag", "one", "unlike", "not", "plus", "add", "times", "alike", "below", "both", "if"]
/-- what of the table is leaned on -/
structure EP (T : Tab) (c g : Str → Nat) : Prop where
  parts : T.fns[c "parts"]? = some (f_p_parts c g)
  leaves : T.gc (g "LEAVES") = some (.tup [.str "number", .str "text", .str "truth", .str "name", .str "empty"])
  binding : T.gc (g "BINDING") = some (.tup [.str "let", .str "for", .str "sum"])
theorem is_w {s : Sto} {x y : Str} (hx : x ∈ words) (hy : y ∈ words) : eqR s (.d (.str x)) (.d (.str y)) = some (decide (x = y)) := eq_str (lay_words x hx) (lay_words y hy)
theorem in_leaves {s : Sto} {x : Str} (hx : x ∈ words) : inR s (.d (.str x)) (.d (.tup [.str "number", .str "text", .str "truth", .str "name", .str "empty"])) = some (decide (x ∈ leafW)) := (in_strs (ws := leafW) (lay_words x hx) (by unfold lv; decide +kernel)).1
theorem in_leavesL {s : Sto} {x : Str} (hx : x ∈ words) : inR s (.d (.str x)) (.l [.str "number", .str "text", .str "truth", .str "name", .str "empty"]) = some (decide (x ∈ leafW)) := (in_strs (ws := leafW) (lay_words x hx) (by unfold lv; decide +kernel)).2
theorem in_binding {s : Sto} {x : Str} (hx : x ∈ words) : inR s (.d (.str x)) (.d (.tup [.str "let", .str "for", .str "sum"])) = some (decide (x ∈ bindW)) := (in_strs (ws := bindW) (lay_words x hx) (by unfold lv; decide +kernel)).1
theorem in_bindingL {s : Sto} {x : Str} (hx : x ∈ words) : inR s (.d (.str x)) (.l [.str "let", .str "for", .str "sum"]) = some (decide (x ∈ bindW)) := (in_strs (ws := bindW) (lay_words x hx) (by unfold lv; decide +kernel)).2
theorem memw : ∀ x ∈ (["record", "match", "field", "case", "tag", "let", "for", "sum", "choice", "number", "text", "truth", "name", "empty", "one", "unlike", "not", "plus", "add", "times", "alike", "below", "both", "if"] : List Str), x ∈ words := by decide +kernel
/-- the word of a head -/
def wordOf : Hd → Str
  | .leaf w _ => w
  | .rcd _ => "record"
  | .mat _ => "match"
  | .fld w _ => w
  | .tag _ _ => "tag"
  | .bnd w _ => w
  | .pln w => w
theorem all_w {P : Str → Prop} [DecidablePred P] {l : List Str} {x : Str} (h : l.all (fun x => decide (P x)) = true) (hx : x ∈ l) : P x := of_decide_eq_true (List.all_eq_true.mp h x hx)
theorem ne_w {s : Sto} {x y : Str} (hx : x ∈ words) (hy : y ∈ words) (h : x ≠ y) : eqR s (.d (.str x)) (.d (.str y)) = some false := by rw [is_w hx hy, decide_eq_false h]
theorem same_w {s : Sto} {x : Str} (hx : x ∈ words) : eqR s (.d (.str x)) (.d (.str x)) = some true := by rw [is_w hx hx, decide_eq_true rfl]
theorem no_leaf {s : Sto} {x : Str} (hx : x ∈ words) (h : x ∉ leafW) : inR s (.d (.str x)) (.d (.tup [.str "number", .str "text", .str "truth", .str "name", .str "empty"])) = some false := by rw [in_leaves hx, decide_eq_false h]
theorem no_leafL {s : Sto} {x : Str} (hx : x ∈ words) (h : x ∉ leafW) : inR s (.d (.str x)) (.l [.str "number", .str "text", .str "truth", .str "name", .str "empty"]) = some false := by rw [in_leavesL hx, decide_eq_false h]
theorem no_bind {s : Sto} {x : Str} (hx : x ∈ words) (h : x ∉ bindW) : inR s (.d (.str x)) (.d (.tup [.str "let", .str "for", .str "sum"])) = some false := by rw [in_binding hx, decide_eq_false h]
theorem no_bindL {s : Sto} {x : Str} (hx : x ∈ words) (h : x ∉ bindW) : inR s (.d (.str x)) (.l [.str "let", .str "for", .str "sum"]) = some false := by rw [in_bindingL hx, decide_eq_false h]
theorem w_rcd : ("record" : Str) ∈ words := by decide +kernel
theorem w_mat : ("match" : Str) ∈ words := by decide +kernel
theorem w_fld : ("field" : Str) ∈ words := by decide +kernel
theorem w_cas : ("case" : Str) ∈ words := by decide +kernel
theorem w_tag : ("tag" : Str) ∈ words := by decide +kernel
theorem w_cho : ("choice" : Str) ∈ words := by decide +kernel
abbrev plnW : List Str := ["one", "unlike", "not", "plus", "add", "times", "alike", "below", "both", "if"]
abbrev fldW : List Str := ["field", "case"]
/-- what the tests of a word tell -/
structure WB (s : Sto) (w : Str) : Prop where
  l : inR s (.d (.str w)) (.d (.tup [.str "number", .str "text", .str "truth", .str "name", .str "empty"])) = some (decide (w ∈ leafW))
  ll : inR s (.d (.str w)) (.l [.str "number", .str "text", .str "truth", .str "name", .str "empty"]) = some (decide (w ∈ leafW))
  b : inR s (.d (.str w)) (.d (.tup [.str "let", .str "for", .str "sum"])) = some (decide (w ∈ bindW))
  bl : inR s (.d (.str w)) (.l [.str "let", .str "for", .str "sum"]) = some (decide (w ∈ bindW))
  r : eqR s (.d (.str w)) (.d (.str "record")) = some (decide (w = "record"))
  m : eqR s (.d (.str w)) (.d (.str "match")) = some (decide (w = "match"))
  f : eqR s (.d (.str w)) (.d (.str "field")) = some (decide (w = "field"))
  c : eqR s (.d (.str w)) (.d (.str "case")) = some (decide (w = "case"))
  t : eqR s (.d (.str w)) (.d (.str "tag")) = some (decide (w = "tag"))
  h : eqR s (.d (.str w)) (.d (.str "choice")) = some (decide (w = "choice"))
theorem wb {s : Sto} {w : Str} (hw : w ∈ words) : WB s w := ⟨in_leaves hw, in_leavesL hw, in_binding hw, in_bindingL hw, is_w hw w_rcd, is_w hw w_mat, is_w hw w_fld, is_w hw w_cas, is_w hw w_tag, is_w hw w_cho⟩
/-- the class of a word -/
structure WC (w : Str) (l b r m f c t h : Bool) : Prop where
  kw : w ∈ words
  kl : decide (w ∈ leafW) = l
  kb : decide (w ∈ bindW) = b
  kr : decide (w = "record") = r
  km : decide (w = "match") = m
  kf : decide (w = "field") = f
  kc : decide (w = "case") = c
  kt : decide (w = "tag") = t
  kh : decide (w = "choice") = h
instance {w : Str} {l b r m f c t h : Bool} : Decidable (WC w l b r m f c t h) := decidable_of_iff (w ∈ words ∧ decide (w ∈ leafW) = l ∧ decide (w ∈ bindW) = b ∧ decide (w = "record") = r ∧ decide (w = "match") = m ∧ decide (w = "field") = f ∧ decide (w = "case") = c ∧ decide (w = "tag") = t ∧ decide (w = "choice") = h)
  ⟨fun ⟨a1, a2, a3, a4, a5, a6, a7, a8, a9⟩ => ⟨a1, a2, a3, a4, a5, a6, a7, a8, a9⟩, fun ⟨a1, a2, a3, a4, a5, a6, a7, a8, a9⟩ => ⟨a1, a2, a3, a4, a5, a6, a7, a8, a9⟩⟩
theorem wc_leaf : ∀ w ∈ leafW, WC w true false false false false false false false := by decide +kernel
theorem wc_bind : ∀ w ∈ bindW, WC w false true false false false false false false := by decide +kernel
theorem wc_pln : ∀ w ∈ plnW, WC w false false false false false false false false := by decide +kernel
theorem wc_rcd : WC "record" false false true false false false false false := by decide +kernel
theorem wc_mat : WC "match" false false false true false false false false := by decide +kernel
theorem wc_fld : WC "field" false false false false true false false false := by decide +kernel
theorem wc_cas : WC "case" false false false false false true false false := by decide +kernel
theorem wc_tag : WC "tag" false false false false false false true false := by decide +kernel
theorem wc_cho : WC "choice" false false false false false false false true := by decide +kernel
theorem wb_of {s : Sto} {w : Str} {l b r m f c t h : Bool} (k : WC w l b r m f c t h) :
    inR s (.d (.str w)) (.d (.tup [.str "number", .str "text", .str "truth", .str "name", .str "empty"])) = some l ∧ inR s (.d (.str w)) (.l [.str "number", .str "text", .str "truth", .str "name", .str "empty"]) = some l ∧
    inR s (.d (.str w)) (.d (.tup [.str "let", .str "for", .str "sum"])) = some b ∧ inR s (.d (.str w)) (.l [.str "let", .str "for", .str "sum"]) = some b ∧ eqR s (.d (.str w)) (.d (.str "record")) = some r ∧ eqR s (.d (.str w)) (.d (.str "match")) = some m ∧
    eqR s (.d (.str w)) (.d (.str "field")) = some f ∧ eqR s (.d (.str w)) (.d (.str "case")) = some c ∧ eqR s (.d (.str w)) (.d (.str "tag")) = some t ∧ eqR s (.d (.str w)) (.d (.str "choice")) = some h := by
  have q := wb (s := s) k.kw
  rw [q.l, q.ll, q.b, q.bl, q.r, q.m, q.f, q.c, q.t, q.h, k.kl, k.kb, k.kr, k.km, k.kf, k.kc, k.kt, k.kh]
  exact ⟨rfl, rfl, rfl, rfl, rfl, rfl, rfl, rfl, rfl, rfl⟩
theorem fin_ls {s : Sto} {cs : List D} (hs : Clo s) (hc : D.ltAll s.length cs = true) : Nv.fin s.length (.l cs) s = .ok (.l cs) s := fin_pure hs hc
theorem fin_d {s : Sto} {d : D} (hs : Clo s) (hc : d.lt s.length = true) : Nv.fin s.length (.d d) s = .ok (.d d) s := fin_pure hs hc
theorem t_parts (E : EP T c g) {m : Nat} {s : Sto} {h : Hd} {cs : List D} (hm : 1 ≤ m) (hs : Clo s) (f : fits h cs.length) (hc : D.ltAll s.length cs = true) : callN T m (c "parts") [mkD h cs] s = .ok (.l cs) s := by
  obtain ⟨n, rfl⟩ : ∃ n, m = n + 1 := ⟨m - 1, by omega⟩
  have hz := fits_few f
  have hf := fin_ls hs hc
  rw [call_at E.parts rfl]
  cases h with
  | leaf w d =>
    obtain ⟨f1, f2, _⟩ := f
    have hn : cs = [] := List.eq_nil_of_length_eq_zero f1
    subst hn
    obtain ⟨q1, _⟩ := wb_of (s := s) (wc_leaf w f2)
    simp -implicitDefEqProofs [f_p_parts, b_p_parts, E.leaves, mkD, q1, hf]
  | rcd ns =>
    obtain ⟨f1, _, _⟩ := f
    obtain ⟨q1, _, _, _, q2, _⟩ := wb_of (s := s) wc_rcd
    have e3 := cp_all (β := RD) (cf := callN T n) (g := T.gc) (s := s) (src := none) (tg := .v 2) (c := .nil) (elt := .ix (.var 2) (.int 1)) (l := wipeL [some (mkD (.rcd ns) cs), some (.str "record"), none] [2]) trivial (acc := [])
      (ds := List.zipWith (fun n c => D.tup [.str n, c]) ns cs) (ys := cs) (by rw [List.length_zipWith, sizeLine_eq]; simp; omega) (All2.zw f1.symm fun a _ b _ K1 K2 => by simp [wipeL])
    simp [mkD] at e3
    simp -implicitDefEqProofs [f_p_parts, b_p_parts, E.leaves, mkD, q1, q2, hf, e3]
  | mat ns =>
    obtain ⟨f1, _, _⟩ := f
    match cs, f1, hz, hf with
    | c0 :: cs, f1, hz, hf =>
      obtain ⟨q1, _, _, _, q2, q3, _⟩ := wb_of (s := s) wc_mat
      have e3 := cp_all (β := RD) (cf := callN T n) (g := T.gc) (s := s) (src := none) (tg := .v 2) (c := .nil) (elt := .ix (.var 2) (.int 2)) (l := wipeL [some (mkD (.mat ns) (c0 :: cs)), some (.str "match"), none] [2]) trivial (acc := [])
        (ds := List.zipWith (fun (n : Str × Str) c => D.tup [.str n.1, .str n.2, c]) ns cs) (ys := cs) (by rw [List.length_zipWith, sizeLine_eq]; simp at hz ⊢; omega) (All2.zw (by simpa using f1.symm) fun a _ b _ K1 K2 => by simp [wipeL])
      simp [mkD] at e3
      have hz2 : [c0].length + cs.length ≤ sizeLine := by rw [sizeLine_eq]; simp at hz ⊢; omega
      simp -implicitDefEqProofs [f_p_parts, b_p_parts, E.leaves, mkD, q1, q2, q3, hf, e3, bin_ll hz2]
  | fld w x =>
    obtain ⟨f1, f2, _⟩ := f
    obtain ⟨c0, rfl⟩ := one_of f1
    rcases List.mem_cons.mp f2 with rfl | f2
    · obtain ⟨q1, _, _, _, q2, q3, q4, _⟩ := wb_of (s := s) wc_fld
      simp -implicitDefEqProofs [f_p_parts, b_p_parts, E.leaves, mkD, q1, q2, q3, q4, hf]
    · rcases List.mem_cons.mp f2 with rfl | f2
      · obtain ⟨q1, _, _, _, q2, q3, q4, q5, _⟩ := wb_of (s := s) wc_cas
        simp -implicitDefEqProofs [f_p_parts, b_p_parts, E.leaves, mkD, q1, q2, q3, q4, q5, hf]
      · cases f2
  | tag k x =>
    obtain ⟨f1, f2, _⟩ := f
    obtain ⟨c0, rfl⟩ := one_of f1
    obtain ⟨q1, _, _, _, q2, q3, q4, q5, q6, _⟩ := wb_of (s := s) wc_tag
    simp -implicitDefEqProofs [f_p_parts, b_p_parts, E.leaves, mkD, q1, q2, q3, q4, q5, q6, hf]
  | bnd w x =>
    obtain ⟨f1, f2, _⟩ := f
    obtain ⟨c0, c1, rfl⟩ := two_of f1
    obtain ⟨q1, _, q7, _, q2, q3, q4, q5, q6, _⟩ := wb_of (s := s) (wc_bind w f2)
    simp -implicitDefEqProofs [f_p_parts, b_p_parts, E.leaves, E.binding, mkD, q1, q2, q3, q4, q5, q6, q7, hf]
  | pln w =>
    obtain ⟨f1, f0, f2⟩ := f
    obtain ⟨q1, _, q7, _, q2, q3, q4, q5, q6, _⟩ := wb_of (s := s) (wc_pln w f2)
    simp -implicitDefEqProofs [f_p_parts, b_p_parts, E.leaves, E.binding, mkD, q1, q2, q3, q4, q5, q6, q7, hf]
end Nv.S2

set_option Elab.async false
set_option maxRecDepth 100000
set_option autoImplicit false
set_option linter.all false
set_option maxHeartbeats 2000000
/-! S2b: with_parts, part_of, part_at -/
namespace Nv
open PySem PySem.Spec PyProof.Rows L2
theorem All2.zz {α : Type} {R : D → D → Prop} {f : α → D → D} : ∀ {ns : List α} {cs ds : List D}, ns.length = cs.length → ns.length = ds.length → (∀ n ∈ ns, ∀ x ∈ cs, ∀ y ∈ ds, R (.tup [f n x, y]) (f n y)) → All2 R (zipD (List.zipWith f ns cs) ds) (List.zipWith f ns ds)
  | [], [], [], _, _, _ => .nil
  | n :: ns, x :: cs, y :: ds, h1, h2, h => .cons (h n (.head _) x (.head _) y (.head _)) (All2.zz (by simpa using h1) (by simpa using h2) fun a ha b hb c hc => h a (.tail _ ha) b (.tail _ hb) c (.tail _ hc))
  | [], _ :: _, _, h, _, _ => by cases h
  | [], [], _ :: _, _, h, _ => by cases h
  | _ :: _, [], _, h, _, _ => by cases h
  | _ :: _, _ :: _, [], _, h, _ => by cases h
theorem zip_len : ∀ (xs ys : List D), (zipD xs ys).length ≤ ys.length
  | [], _ => Nat.zero_le _
  | _ :: _, [] => Nat.zero_le _
  | _ :: r, _ :: q => Nat.succ_le_succ (zip_len r q)
theorem zw_lt {α : Type} {n : Nat} {f : α → D → D} : ∀ {ns : List α} {cs : List D}, (∀ a ∈ ns, ∀ c ∈ cs, (f a c).lt n = true) → D.ltAll n (List.zipWith f ns cs) = true
  | [], _, _ => by simp [D.ltAll]
  | _ :: _, [], _ => by simp [D.ltAll]
  | a :: ns, c :: cs, h => by
    rw [List.zipWith_cons_cons]
    unfold D.ltAll
    rw [h a (.head _) c (.head _), zw_lt fun x hx y hy => h x (.tail _ hx) y (.tail _ hy)]; rfl
theorem mk_lt {n : Nat} {h : Hd} {cs : List D} (f : fits h cs.length) (hc : D.ltAll n cs = true) : (mkD h cs).lt n = true := by
  cases h with
  | leaf w d => obtain ⟨_, _, f3⟩ := f; simp [mkD, D.lt, D.ltAll, f3.lt]
  | rcd ns =>
    have := zw_lt (n := n) (ns := ns) (cs := cs) (f := fun n c => D.tup [.str n, c]) fun a _ c hc' => by simp [D.lt, D.ltAll, lt_mem hc hc']
    simp [mkD, D.lt, D.ltAll, this]
  | mat ns =>
    match cs, f.1, hc with
    | c0 :: cs, _, hc =>
      have h2 : D.ltAll n cs = true := by unfold D.ltAll at hc; rw [Bool.and_eq_true] at hc; exact hc.2
      have := zw_lt (n := n) (ns := ns) (cs := cs) (f := fun (n : Str × Str) c => D.tup [.str n.1, .str n.2, c]) fun a _ c hc' => by simp [D.lt, D.ltAll, lt_mem h2 hc']
      simp [mkD, D.lt, D.ltAll, this, lt_mem hc (.head _)]
  | fld w x =>
    obtain ⟨c0, rfl⟩ := one_of f.1
    simp [mkD, D.lt, D.ltAll, lt_mem hc (.head _)]
  | tag k x =>
    obtain ⟨c0, rfl⟩ := one_of f.1
    have := f.2.1.lt (m := n)
    simp only [D.lt] at this
    simp [mkD, D.lt, this, D.ltAll, lt_mem hc (.head _)]
    simpa [D.ltAll, D.lt] using this
  | bnd w x => simp [mkD, D.lt, D.ltAll, hc]
  | pln w => simp [mkD, D.lt, D.ltAll, hc]
theorem Q.ok.lt {n m : Nat} {q : Q} (h : Q.ok n q) : q.toD.lt m = true := h.sh.lt
theorem oks_lt {n m : Nat} {qs : List Q} (h : ∀ c ∈ qs, Q.ok n c) : D.ltAll m (qs.map Q.toD) = true := ltAll_mem fun x hx => by
  obtain ⟨c, hc, rfl⟩ := List.mem_map.mp hx
  exact (h c hc).lt
end Nv
namespace Nv.S2
open PySem PySem.Spec PyProof.Rows L2
variable {T : Tab} {c g : Str → Nat}
structure EX (T : Tab) (c g : Str → Nat) : Prop extends EP T c g where
  wparts : T.fns[c "with_parts"]? = some (f_p_with_parts c g)
  part_of : T.fns[c "part_of"]? = some (f_p_part_of c g)
  wpart : T.fns[c "with_part"]? = some (f_p_with_part c g)
structure EW (T : Tab) (c g : Str → Nat) : Prop extends EX T c g where
  part_at : T.fns[c "part_at"]? = some (f_p_part_at c g)
theorem t_with_parts (E : EX T c g) {m k : Nat} {s : Sto} {h : Hd} {cs ds : List D} (hm : 1 ≤ m) (hs : Clo s) (hk : s[k]? = some (.lst ds)) (hl : ds.length = cs.length) (f : fits h cs.length) (hc : D.ltAll s.length ds = true) (hc2 : D.ltAll s.length cs = true) :
    callN T m (c "with_parts") [mkD h cs, .obj k] s = .ok (.d (mkD h ds)) s := by
  obtain ⟨n, rfl⟩ : ∃ n, m = n + 1 := ⟨m - 1, by omega⟩
  have f0 := f
  rw [← hl] at f0
  have hz := fits_few f0
  have hf := fin_d hs (mk_lt f0 hc)
  have hlk : lstAt s k = some ds := lstAt_of hk
  rw [call_at E.wparts rfl]
  cases h with
  | leaf w d =>
    obtain ⟨f1, f2, _⟩ := f
    obtain ⟨q1, _⟩ := wb_of (s := s) (wc_leaf w f2)
    simp only [mkD] at hf
    simp -implicitDefEqProofs [f_p_with_parts, b_p_with_parts, E.leaves, mkD, q1, hf]
  | rcd ns =>
    obtain ⟨f1, _, _⟩ := f
    obtain ⟨q1, _, _, _, q2, _⟩ := wb_of (s := s) wc_rcd
    have e3 := cp_all (β := RD) (cf := callN T n) (g := T.gc) (s := s) (src := some (k, ds)) (tg := .c (.v 4) (.c (.v 5) .n)) (c := .nil) (elt := .tup (.cons (.ix (.var 4) (.int 0)) (.cons (.var 5) .nil))) (l := wipeL [some (mkD (.rcd ns) cs), some (.obj k), some (.str "record"), none, none, none] [4, 5]) hk (acc := [])
      (by have := zip_len (List.zipWith (fun n c => D.tup [.str n, c]) ns cs) ds; rw [sizeLine_eq]; simp; omega) (All2.zz (f := fun n c => D.tup [.str n, c]) (ns := ns) (cs := cs) (ds := ds) (by omega) (by omega) fun a _ b _ d _ K1 K2 => by simp [wipeL])
    simp [mkD] at e3 hf
    simp -implicitDefEqProofs [f_p_with_parts, b_p_with_parts, E.leaves, mkD, q1, q2, zip_to hk, e3, hf]
  | mat ns =>
    obtain ⟨f1, _, _⟩ := f
    obtain ⟨f01, _⟩ := f0
    match cs, ds, f1, f01, hz, hf, hk, hlk with
    | c0 :: cs, d0 :: ds, f1, f01, hz, hf, hk, hlk =>
      obtain ⟨q1, _, _, _, q2, q3, _⟩ := wb_of (s := s) wc_mat
      have e3 := cp_all (β := RD) (cf := callN T n) (g := T.gc) (s := s) (src := none) (tg := .c (.v 4) (.c (.v 5) .n)) (c := .nil) (elt := .tup (.cons (.ix (.var 4) (.int 0)) (.cons (.ix (.var 4) (.int 1)) (.cons (.var 5) .nil)))) (l := wipeL [some (mkD (.mat ns) (c0 :: cs)), some (.obj k), some (.str "match"), none, none, none] [4, 5]) trivial (acc := [])
        (by have := zip_len (List.zipWith (fun (n : Str × Str) c => D.tup [.str n.1, .str n.2, c]) ns cs) ds; rw [sizeLine_eq]; simp at hz ⊢; omega) (All2.zz (f := fun (n : Str × Str) c => D.tup [.str n.1, .str n.2, c]) (ns := ns) (cs := cs) (ds := ds) (by simp at f1; omega) (by simp at f01; omega) fun a _ b _ d _ K1 K2 => by simp [wipeL])
      simp [mkD] at e3 hf
      have hsl : slR s (.d (.obj k)) (some 1) none = some (.l ds) := by
        show (asL s (.d (.obj k))).map _ = _
        rw [asL_obj, hlk]; simp
      simp -implicitDefEqProofs [f_p_with_parts, b_p_with_parts, E.leaves, mkD, q1, q2, q3, hsl, e3, hk, hf]
  | fld w x =>
    obtain ⟨f1, f2, _⟩ := f
    obtain ⟨c0, rfl⟩ := one_of f1
    obtain ⟨d0, rfl⟩ := one_of (hl.trans f1)
    simp [mkD] at hf
    rcases List.mem_cons.mp f2 with rfl | f2
    · obtain ⟨q1, _, _, _, q2, q3, q4, _⟩ := wb_of (s := s) wc_fld
      simp -implicitDefEqProofs [f_p_with_parts, b_p_with_parts, E.leaves, mkD, q1, q2, q3, q4, hk, hf]
    · rcases List.mem_cons.mp f2 with rfl | f2
      · obtain ⟨q1, _, _, _, q2, q3, q4, q5, _⟩ := wb_of (s := s) wc_cas
        simp -implicitDefEqProofs [f_p_with_parts, b_p_with_parts, E.leaves, mkD, q1, q2, q3, q4, q5, hk, hf]
      · cases f2
  | tag kk x =>
    obtain ⟨f1, f2, _⟩ := f
    obtain ⟨c0, rfl⟩ := one_of f1
    obtain ⟨d0, rfl⟩ := one_of (hl.trans f1)
    simp [mkD] at hf
    obtain ⟨q1, _, _, _, q2, q3, q4, q5, q6, _⟩ := wb_of (s := s) wc_tag
    simp -implicitDefEqProofs [f_p_with_parts, b_p_with_parts, E.leaves, mkD, q1, q2, q3, q4, q5, q6, hk, hf]
  | bnd w x =>
    obtain ⟨f1, f2, _⟩ := f
    obtain ⟨c0, c1, rfl⟩ := two_of f1
    obtain ⟨d0, d1, rfl⟩ := two_of (hl.trans f1)
    simp [mkD] at hf
    obtain ⟨q1, _, q7, _, q2, q3, q4, q5, q6, _⟩ := wb_of (s := s) (wc_bind w f2)
    simp -implicitDefEqProofs [f_p_with_parts, b_p_with_parts, E.leaves, E.binding, mkD, q1, q2, q3, q4, q5, q6, q7, hk, hf]
  | pln w =>
    obtain ⟨f1, f00, f2⟩ := f
    simp [mkD] at hf
    obtain ⟨q1, _, q7, _, q2, q3, q4, q5, q6, _⟩ := wb_of (s := s) (wc_pln w f2)
    have htp : b1R .tuple s (.d (.obj k)) = some (.d (.tup ds)) := by show (asQ s (.d (.obj k))).map _ = _; rw [asQ_obj, hlk]; rfl
    have hbt := bin_tup (s := s) (xs := [D.str w]) (ys := ds) (by rw [sizeLine_eq]; simp; omega)
    simp -implicitDefEqProofs [f_p_with_parts, b_p_with_parts, E.leaves, E.binding, mkD, q1, q2, q3, q4, q5, q6, q7, htp, hbt, hf]
def plD (p : List Nat) : D := .tup (p.map fun i : Nat => D.int i)
theorem pl_lt {n : Nat} (p : List Nat) : (plD p).lt n = true := by
  unfold plD D.lt
  refine ltAll_mem fun x hx => ?_
  obtain ⟨i, _, rfl⟩ := List.mem_map.mp hx
  rfl
theorem t_partsQ (E : EP T c g) {m n : Nat} {s : Sto} {q : Q} (hm : 1 ≤ m) (hs : Clo s) (h : Q.ok n q) : callN T m (c "parts") [q.toD] s = .ok (.l (q.kids.map Q.toD)) s := by
  cases n with
  | zero => exact h.elim
  | succ n =>
    obtain ⟨f, k⟩ := h
    rw [toD_node]
    exact t_parts E hm hs (by rw [List.length_map]; exact f) (oks_lt k)
theorem t_part_of (E : EX T c g) {m n i : Nat} {s : Sto} {q d : Q} (hm : 2 ≤ m) (hs : Clo s) (h : Q.ok n q) (hi : q.kids[i]? = some d) : callN T m (c "part_of") [q.toD, .int i] s = .ok (.d d.toD) s := by
  obtain ⟨m, rfl⟩ : ∃ k, m = k + 1 := ⟨m - 1, by omega⟩
  have e1 := t_partsQ E.toEP (m := m) (by omega) hs h
  have hd : Q.ok n d := ok_get (p := [i]) h (by show (q.kids[i]?).bind _ = _; rw [hi]; rfl)
  have hf := fin_d hs (hd.lt (m := s.length))
  have hlt := (List.getElem?_eq_some_iff.mp hi).1
  have ha : atI (q.kids.map Q.toD) (i : Int) = some d.toD := atI_nat (by rw [List.getElem?_map, hi]; rfl)
  have c1 : ¬ ((i : Int) < 0) := by omega
  have c2 : ¬ ((q.kids.length : Int) ≤ i) := by omega
  rw [call_at E.part_of rfl]
  simp -implicitDefEqProofs [f_p_part_of, b_p_part_of, callK_of e1, c1, c2, ha, hf]
theorem part_at_loop (E : EW T c g) {m n : Nat} {s : Sto} (hm : 2 ≤ m) (hs : Clo s) {a0 a1 : Option D} : ∀ {p : List Nat} {q d : Q} {o : Option D}, Q.ok n q → getAt q p = some d → ∃ o', ∀ j : Fl → Loc → Sto → Res RD,
    forK (.v 3) none (sden (callN T m) T.gc (.cons (.set (.v 2) (.frz (.call (c "part_of") (.cons (.var 2) (.cons (.var 3) .nil))))) .nil)) (p.map fun i : Nat => D.int i) [a0, a1, some q.toD, o] s j = j .nx [a0, a1, some d.toD, o'] s
  | [], q, d, o, h, e => by
    cases e
    exact ⟨o, fun j => for_nil (src := none) (s := s) trivial⟩
  | i :: p, q, d, o, h, e => by
    obtain ⟨x, e1, e2⟩ := getAt_cons e
    have hx : Q.ok n x := ok_get (p := [i]) h (by show (q.kids[i]?).bind _ = _; rw [e1]; rfl)
    obtain ⟨o', e3⟩ := part_at_loop (a0 := a0) (a1 := a1) (o := some (.int i)) E hm hs hx e2
    refine ⟨o', fun j => ?_⟩
    rw [List.map_cons, for_cons (src := none) (s := s) trivial]
    simp [callK_of (t_part_of E.toEX hm hs h e1), e3]
theorem t_part_at (E : EW T c g) {m n : Nat} {s : Sto} {q d : Q} {p : List Nat} (hm : 3 ≤ m) (hs : Clo s) (h : Q.ok n q) (e : getAt q p = some d) : callN T m (c "part_at") [q.toD, plD p] s = .ok (.d d.toD) s := by
  obtain ⟨m, rfl⟩ : ∃ k, m = k + 1 := ⟨m - 1, by omega⟩
  have hf := fin_d hs ((ok_get h e).lt (m := s.length))
  obtain ⟨o, e1⟩ := part_at_loop E (m := m) (by omega) hs (a0 := some q.toD) (a1 := some (plD p)) (o := none) h e
  rw [call_at E.part_at rfl]
  simp [plD] at e1
  simp -implicitDefEqProofs [f_p_part_at, b_p_part_at, plD, e1, hf]
end Nv.S2

set_option Elab.async false
set_option maxRecDepth 100000
set_option autoImplicit false
set_option linter.all false
set_option maxHeartbeats 2000000
/-! S2c: with_part, places -/
namespace Nv.S2
open PySem PySem.Spec PyProof.Rows L2
variable {T : Tab} {c g : Str → Nat}
theorem pyW_ints {g : Nat → Option PyData} : ∀ p : List Nat, pyWs g (p.map fun i : Nat => D.int i) = some (p.map fun i : Nat => PyData.int i)
  | [] => rfl
  | i :: p => by rw [List.map_cons]; unfold pyWs; rw [pyW_ints p]; rfl
theorem lay_ints : ∀ p : List Nat, PyData.canLayAll0 (p.map fun i : Nat => PyData.int i) = true ∧ PyData.depthAll (p.map fun i : Nat => PyData.int i) = 0
  | [] => ⟨rfl, rfl⟩
  | i :: p => by
    obtain ⟨h1, h2⟩ := lay_ints p
    rw [List.map_cons]
    unfold PyData.canLayAll0 PyData.depthAll
    rw [h1, h2]
    exact ⟨rfl, rfl⟩
theorem eqv_ints : ∀ p r : List Nat, PyData.eqvAll (p.map fun i : Nat => PyData.int i) (r.map fun i : Nat => PyData.int i) = decide (p = r)
  | [], [] => rfl
  | [], _ :: _ => rfl
  | _ :: _, [] => rfl
  | i :: p, j :: r => by
    rw [List.map_cons, List.map_cons, PyData.eqvAll, eqv_ints p r]
    have e : PyData.eqv (.int i) (.int j) = decide (i = j) := by
      simp only [PyData.eqv]
      by_cases h : i = j
      · subst h; simp
      · simp [h]; omega
    rw [e]
    by_cases h : i = j <;> by_cases h2 : p = r <;> simp [h, h2]
theorem pl_eq2 {s : Sto} (p r : List Nat) : eqR s (.d (plD p)) (.d (plD r)) = some (decide (p = r)) := by
  have e : ∀ q : List Nat, pyR s (.d (plD q)) = some (.tuple (q.map fun i : Nat => PyData.int i)) := fun q => by
    show pyN s 3 (plD q) = _
    unfold pyN plD pyW
    rw [pyW_ints]; rfl
  have sh : ∀ q : List Nat, SeqAt.shaped (.tuple (q.map fun i : Nat => PyData.int i)) = true := fun q => by
    obtain ⟨h1, h2⟩ := lay_ints q
    refine shaped_of (by unfold PyData.canLay0; exact h1) ?_
    unfold PyData.depth
    rw [h2]; decide
  unfold eqR
  rw [e, e]
  simp only
  rw [if_pos ⟨sh p, sh r⟩, PyData.eqv, eqv_ints]
theorem pl_eq {s : Sto} (p : List Nat) : eqR s (.d (plD p)) (.d (.tup [])) = some (decide (p = [])) := pl_eq2 p []
theorem take_set {α : Type} {xs : List α} {i : Nat} {x : α} (h : i < xs.length) : xs.take i ++ [x] ++ xs.drop (i + 1) = xs.set i x := by
  rw [List.set_eq_take_append_cons_drop, if_pos h, List.append_assoc]; rfl
theorem t_with_part (E : EX T c g) {k : Nat} {o : Q} (ho : Q.ok k o) : ∀ {p : List Nat} {q d : Q} {n m : Nat} {s : Sto}, p.length + 3 ≤ m → Clo s → Q.ok n q → getAt q p = some d → callN T m (c "with_part") [q.toD, plD p, o.toD] s = .ok (.d (put o q p).toD) s
  | [], q, d, n, m, s, hm, hs, hq, e => by
    obtain ⟨m, rfl⟩ : ∃ k, m = k + 1 := ⟨m - 1, by omega⟩
    have hf := fin_d hs (ho.lt (m := s.length))
    have h1 := pl_eq (s := s) []
    rw [call_at E.wpart rfl]
    simp -implicitDefEqProofs [f_p_with_part, b_p_with_part, h1, put, hf]
  | i :: p, q, d, n, m, s, hm, hs, hq, e => by
    obtain ⟨m, rfl⟩ : ∃ k, m = k + 1 := ⟨m - 1, by omega⟩
    rw [List.length_cons] at hm
    obtain ⟨x, e1, e2⟩ := getAt_cons e
    have hx : Q.ok n x := ok_get (p := [i]) hq (by show (q.kids[i]?).bind _ = _; rw [e1]; rfl)
    have hlt := (List.getElem?_eq_some_iff.mp e1).1
    have hr := ok_put ho hq e
    have hf : Nv.fin s.length (.d (put o q (i :: p)).toD) (s ++ [.lst ((q.kids.set i (put o x p)).map Q.toD), .lst [(put o x p).toD]]) = .ok (.d (put o q (i :: p)).toD) s := fin_g hs (hr.lt (m := s.length))
    obtain ⟨n', rfl⟩ : ∃ k, n = k + 1 := by cases n with
      | zero => exact hq.elim
      | succ k => exact ⟨k, rfl⟩
    have hks := oks_lt (m := s.length + 1) hq.2
    have hs1 : Clo (s ++ [.lst (q.kids.map Q.toD)]) := hs.push hks
    have h0 := pl_eq (s := s) (i :: p)
    have h1 := t_partsQ E.toEP (m := m) (by omega) hs hq
    have h2 := t_part_of E (m := m) (by omega) hs1 hq e1
    have h3 := t_with_part E ho (p := p) (m := m) (by omega) hs1 hx e2
    have hz := fits_few hq.1
    have h4 := setSl_ok (s := s ++ [.lst (q.kids.map Q.toD), .lst [(put o x p).toD]]) (i := s.length) (j := s.length + 1) (xs := q.kids.map Q.toD) (ys := [(put o x p).toD]) (a := i) (b := i + 1) mid_at (by rw [List.getElem?_append_right (by omega)]; simp) (by omega) (by omega) (by rw [List.length_map]; omega) (by rw [List.length_map, sizeLine_eq]; simp; omega)
    have hts : (q.kids.map Q.toD).take i ++ [(put o x p).toD] ++ (q.kids.map Q.toD).drop (i + 1) = (q.kids.set i (put o x p)).map Q.toD := by
      rw [take_set (by rw [List.length_map]; exact hlt), List.map_set]
    rw [hts, set_mid] at h4
    have hpx : Q.ok (n' + 1 + k) (put o x p) := ok_put ho hx e2
    have hk2 : ∀ y ∈ q.kids.set i (put o x p), Q.ok (n' + 1 + k) y := fun y hy => by
      rcases List.mem_or_eq_of_mem_set hy with z | z
      · exact (hq.2 y z).mono (by omega)
      · rw [z]; exact hpx
    have hs3 : Clo (s ++ [.lst ((q.kids.set i (put o x p)).map Q.toD), .lst [(put o x p).toD]]) := by
      have := (hs.push (o := .lst ((q.kids.set i (put o x p)).map Q.toD)) (oks_lt hk2)).push (o := .lst [(put o x p).toD]) (oks_lt (qs := [put o x p]) (fun y hy => by rw [List.mem_singleton.mp hy]; exact hpx))
      rwa [List.append_assoc] at this
    have h5 := t_with_parts E (m := m) (k := s.length) (h := q.hd) (cs := q.kids.map Q.toD) (ds := (q.kids.set i (put o x p)).map Q.toD) (by omega) hs3 mid_at (by rw [List.length_map, List.length_map, List.length_set]) (by rw [List.length_map]; exact hq.1) (oks_lt hk2) (oks_lt hq.2)
    rw [← toD_node] at h5
    have h6 : mkD q.hd ((q.kids.set i (put o x p)).map Q.toD) = (put o q (i :: p)).toD := by rw [put_cons e1, toD_node]; rfl
    rw [h6] at h5
    have hcut : (plD (i :: p)) = .tup (.int i :: p.map fun i : Nat => D.int i) := rfl
    have hcp : D.tup (p.map fun i : Nat => D.int i) = plD p := rfl
    rw [hcut] at h0
    rw [List.map_set] at h5 hf
    simp at h4 h0
    rw [call_at E.wpart rfl]
    simp -implicitDefEqProofs [f_p_with_part, b_p_with_part, hcut, hcp, h0, callK_of h1, callK_of h2, callK_of h3, h4, callK_of h5, hf]
theorem pls_len {q : Q} {p : List Nat} (h : p ∈ q.pls) {n : Nat} (hq : Q.ok n q) : p.length < n := by
  obtain ⟨d, e⟩ := pls_at h
  exact at_len hq e
theorem pls_ltAll {n : Nat} (ps : List (List Nat)) : D.ltAll n (ps.map plD) = true := ltAll_mem fun x hx => by
  obtain ⟨p, _, rfl⟩ := List.mem_map.mp hx
  exact pl_lt p
theorem pl_cons {i : Nat} {p : List Nat} (h : p.length ≤ 1000) {s : Sto} : binR .add s (.d (.tup [.int i])) (.d (plD p)) = some (.d (plD (i :: p))) := by
  unfold plD
  rw [bin_tup (by rw [List.length_map, sizeLine_eq]; simp; omega)]; rfl
theorem All2.mm {α β γ : Type} {R : β → γ → Prop} {f : α → β} {h : α → γ} : ∀ {ps : List α}, (∀ p ∈ ps, R (f p) (h p)) → All2 R (ps.map f) (ps.map h)
  | [], _ => .nil
  | p :: ps, q => .cons (q p (.head _)) (All2.mm fun x hx => q x (.tail _ hx))
/-- the number ahead of each place -/
theorem cp_num {T : Tab} {m : Nat} {s : Sto} {i : Nat} {x0 x1 x3 x4 : Option D} {ps : List (List Nat)} {src : Option (Nat × List D)} (hs : srcOk src s) (hz : ps.length ≤ 1000000) (hp : ∀ p ∈ ps, p.length ≤ 1000) :
    ∀ k : List D → Sto → Res RD, cpK (.v 4) src (den (callN T m) T.gc .nil).b (den (callN T m) T.gc (.bin .add (.tup (.cons (.var 2) .nil)) (.var 4))).v (wipeL [x0, x1, some (.int i), x3, x4] [4]) (ps.map plD) [] s k = k ((ps.map (i :: ·)).map plD) s := by
  rw [List.map_map]
  exact cp_all (β := RD) (cf := callN T m) (g := T.gc) (s := s) (src := src) (tg := .v 4) (c := .nil) (elt := .bin .add (.tup (.cons (.var 2) .nil)) (.var 4)) (l := wipeL [x0, x1, some (.int i), x3, x4] [4]) hs (acc := []) (ds := ps.map plD) (ys := ps.map (plD ∘ (i :: ·))) (by rw [List.length_map, sizeLine_eq]; simp; omega)
    (All2.mm fun p hp' K1 K2 => by
      have h1 := pl_cons (i := i) (hp p hp') (s := s)
      simp [wipeL, h1])
theorem numbered_nil {k : Nat} {xs : List D} (h : numbered k xs = []) : xs = [] := by
  cases xs with
  | nil => rfl
  | cons x r => unfold numbered at h; cases h
theorem numbered_cons {k : Nat} {xs r : List D} {x : D} (h : x :: r = numbered k xs) : ∃ y ys, xs = y :: ys ∧ x = .tup [.int k, y] ∧ r = numbered (k + 1) ys := by
  cases xs with
  | nil => unfold numbered at h; cases h
  | cons y ys => unfold numbered at h; cases h; exact ⟨y, ys, rfl, rfl, rfl⟩
theorem map_cons_of {α β : Type} {f : α → β} {xs : List α} {y : β} {ys : List β} (h : xs.map f = y :: ys) : ∃ x r, xs = x :: r ∧ f x = y ∧ r.map f = ys := by
  cases xs with
  | nil => cases h
  | cons x r => cases h; exact ⟨x, r, rfl, rfl, rfl⟩
/-- the places, by their parts, in the store -/
theorem t_places (E : EW T c g) (hp : T.fns[c "places"]? = some (f_p_places c g)) : ∀ {n m : Nat} {q : Q} {s : Sto}, n + 2 ≤ m → n ≤ 1000 → Clo s → Q.ok n q → q.sz ≤ 1000000 → callN T m (c "places") [q.toD] s = .ok (.l (q.pls.map plD)) s := by
  intro n
  induction n with
  | zero => intro m q s _ _ _ h; exact h.elim
  | succ n ih =>
    intro m q s hm hn hs hq hz
    obtain ⟨m, rfl⟩ : ∃ k, m = k + 1 := ⟨m - 1, by omega⟩
    have h1 := t_partsQ E.toEP (m := m) (s := s ++ [.lst []]) (by omega) (hs.push rfl) hq
    have hlen : (plss 0 q.kids).length + 1 = q.sz := by rw [plss_len, sz_node]
    obtain ⟨l2, s2, ⟨k, done, cs, o2, o3, o4, i1, i2, i3, i4, i5⟩, e2⟩ := for_go (β := RD) (cf := callN T m) (g := T.gc) (tg := .c (.v 2) (.c (.v 3) .n)) (src := none) (u := .cons (.ex (.m1 .extend (.var 1) (.cp (.bin .add (.tup (.cons (.var 2) .nil)) (.var 4)) (.v 4) (.call (c "places") (.cons (.var 3) .nil)) .nil [4]))) .nil)
      (I := fun rest l s' => ∃ (k : Nat) (done : List (List Nat)) (cs : List Q) (o2 o3 o4 : Option D), rest = numbered k (cs.map Q.toD) ∧ l = [some q.toD, some (.obj s.length), o2, o3, o4] ∧ s' = s ++ [.lst (done.map plD)] ∧ done ++ plss k cs = plss 0 q.kids ∧ ∀ x ∈ cs, x ∈ q.kids)
      (ds := numbered 0 (q.kids.map Q.toD)) (l := [some q.toD, some (.obj s.length), none, none, none]) (s := s ++ [.lst []]) ⟨0, [], q.kids, none, none, none, rfl, rfl, rfl, rfl, fun x hx => hx⟩ (fun _ _ _ _ => trivial) (by
        rintro x rest l s' ⟨k, done, cs, o2, o3, o4, i1, rfl, rfl, i4, i5⟩
        obtain ⟨y, ys, e1, rfl, rfl⟩ := numbered_cons i1
        obtain ⟨cc, r, rfl, rfl, rfl⟩ := map_cons_of e1
        have hcc := hq.2 cc (i5 cc (.head _))
        have hzc := sz_kid (i5 cc (.head _))
        have hcl : Clo (s ++ [.lst (done.map plD)]) := hs.push (pls_ltAll _)
        have h2 := ih (m := m) (q := cc) (s := s ++ [.lst (done.map plD)]) (by omega) (by omega) hcl hcc (by omega)
        have h3 := cp_num (T := T) (m := m) (s := s ++ [.lst (done.map plD)]) (i := k) (x0 := some q.toD) (x1 := some (.obj s.length)) (x3 := some cc.toD) (x4 := o4) (ps := cc.pls) (src := none) trivial (by show cc.sz ≤ _; omega) (fun p hp => by have := pls_len hp hcc; omega)
        have hl : done.length + (plss k (cc :: r)).length = (plss 0 q.kids).length := by rw [← i4, List.length_append]
        have hl2 : (plss k (cc :: r)).length = cc.pls.length + (plss (k + 1) r).length := by rw [plss, List.length_append, List.length_map]
        have h4 := ext_ok (s := s ++ [.lst (done.map plD)]) (i := s.length) (a := .l ((cc.pls.map (k :: ·)).map plD)) (xs := done.map plD) (ys := (cc.pls.map (k :: ·)).map plD) mid_at rfl (by rw [List.length_map, List.length_map, List.length_map, sizeLine_eq]; omega)
        rw [set_mid, ← List.map_append] at h4
        refine ⟨[some q.toD, some (.obj s.length), some (.int k), some cc.toD, o4], s ++ [.lst ((done ++ cc.pls.map (k :: ·)).map plD)], ⟨k + 1, done ++ cc.pls.map (k :: ·), r, _, _, _, rfl, rfl, rfl, ?_, fun x hx => i5 x (.tail _ hx)⟩, fun F => ?_⟩
        · rw [← i4, plss, List.append_assoc]
        · have hb : isLstB (s ++ [.lst (done.map plD)]) (.obj s.length) = true := isl_ok mid_at
          simp [-List.map_append, -List.map_map, -isLst_of, hb, callK_of h2, h3, h4])
    have hcs : cs = [] := by
      have := numbered_nil i1.symm
      simpa using this
    subst hcs
    rw [plss, List.append_nil] at i4
    subst i2 i3
    have h5 := app_ok (s := s ++ [.lst (done.map plD)]) (i := s.length) (d := .tup []) (xs := done.map plD) mid_at (by rw [List.length_map, i4, sizeLine_eq]; omega)
    have h6 : done.map plD ++ [D.tup []] = q.pls.map plD := by rw [pls_node, ← i4, List.map_append]; rfl
    rw [set_mid, h6] at h5
    have hf := fin_new (g := [.lst (q.pls.map plD)]) hs (Nat.le_refl _) mid_at (pls_ltAll (n := s.length) q.pls)
    have hb : isLstB (s ++ [.lst (done.map plD)]) (.obj s.length) = true := isl_ok mid_at
    rw [call_at hp rfl]
    simp -implicitDefEqProofs [-List.map_append, -isLst_of, f_p_places, b_p_places, callK_of h1, e2, hb, h5, hf]
end Nv.S2

set_option Elab.async false
set_option maxRecDepth 100000
set_option autoImplicit false
set_option linter.all false
set_option maxHeartbeats 2000000
/-! S2d: the laws' own parts, places, exchange -/
namespace Nv.S2
open PySem PySem.Spec PyProof.Rows L2
variable {T : Tab} {c g : Str → Nat}
theorem toD_word {n : Nat} {q : Q} (h : Q.ok n q) : ∃ w r, q.toD = .tup (.str w :: r) ∧ w ∈ words ∧ w ≠ "choice" := by
  cases n with
  | zero => exact h.elim
  | succ n =>
    obtain ⟨f, k⟩ := h
    rw [toD_node]
    cases e : q.hd with
    | leaf w d =>
      rw [e] at f
      have := wc_leaf w f.2.1
      exact ⟨w, _, rfl, this.kw, of_decide_eq_false this.kh⟩
    | rcd ns => exact ⟨_, _, rfl, wc_rcd.kw, of_decide_eq_false wc_rcd.kh⟩
    | mat ns => exact ⟨_, _, rfl, wc_mat.kw, of_decide_eq_false wc_mat.kh⟩
    | fld w x =>
      rw [e] at f
      obtain ⟨_, f2, _⟩ := f
      rcases List.mem_cons.mp f2 with z | z
      · subst z; exact ⟨_, _, rfl, wc_fld.kw, of_decide_eq_false wc_fld.kh⟩
      · rcases List.mem_cons.mp z with z | z
        · subst z; exact ⟨_, _, rfl, wc_cas.kw, of_decide_eq_false wc_cas.kh⟩
        · cases z
    | tag k x => exact ⟨_, _, rfl, wc_tag.kw, of_decide_eq_false wc_tag.kh⟩
    | bnd w x =>
      rw [e] at f
      have := wc_bind w f.2.1
      exact ⟨w, _, rfl, this.kw, of_decide_eq_false this.kh⟩
    | pln w =>
      rw [e] at f
      have := wc_pln w f.2.2
      exact ⟨w, _, rfl, this.kw, of_decide_eq_false this.kh⟩
/-- whether a thing is a question, for the law -/
def isPart : D → Bool
  | .tup (.str w :: _) => !decide (w = "choice")
  | _ => false
theorem ip_str {x : Str} : isPart (.str x) = false := rfl
theorem ip_cho {k : List D} : isPart (.tup (.str "choice" :: k)) = false := by simp [isPart]
theorem lp_step {m : Nat} {s : Sto} {x0 x1 x2 x3 x4 : Option D} {x : D} (h : (∃ y, x = .str y) ∨ ∃ w r, x = .tup (.str w :: r) ∧ w ∈ words) (K1 : D → Sto → Res RD) (K2 : Sto → Res RD) :
    btK (bindT (.v 2) x (wipeL [x0, x1, x2, x3, x4] [2])) (fun l1 => evb (callN T m) T.gc (.and (.isin (.var 2) .tuple) (.cmp .ne (.ix (.var 2) (.int 0)) (.str "choice"))) l1 s fun t s1 => if t = true then evv (callN T m) T.gc (.var 2) l1 s1 K1 else K2 s1) = if isPart x = true then K1 x s else K2 s := by
  rcases h with ⟨y, rfl⟩ | ⟨w, r, rfl, hw⟩
  · simp [wipeL, isPart]
  · have q := (wb (s := s) hw).h
    by_cases e : w = "choice"
    · subst e
      simp [wipeL, isPart, same_w w_cho]
    · simp [wipeL, isPart, q, e]
theorem t_law_parts (E : EP T c g) (hp : T.fns[c "_law_parts"]? = some (f_parts c g)) {m n : Nat} {s : Sto} {q : Q} (hm : 1 ≤ m) (hs : Clo s) (h : Q.ok n q) : callN T m (c "_law_parts") [q.toD] s = .ok (.l (q.kids.map Q.toD)) s := by
  obtain ⟨m, rfl⟩ : ∃ k, m = k + 1 := ⟨m - 1, by omega⟩
  obtain ⟨n, rfl⟩ : ∃ k, n = k + 1 := by cases n with
    | zero => exact h.elim
    | succ k => exact ⟨k, rfl⟩
  obtain ⟨f, k⟩ := h
  have hz := fits_few f
  have hf := fin_ls hs (oks_lt (m := s.length) k)
  rw [toD_node]
  have hl0 : (q.kids.map Q.toD).length = q.kids.length := List.length_map _
  have hpart : ∀ x ∈ q.kids.map Q.toD, isPart x = true ∧ ∃ w r, x = .tup (.str w :: r) ∧ w ∈ words := fun x hx => by
    obtain ⟨cc, hc, rfl⟩ := List.mem_map.mp hx
    obtain ⟨w, r, e, h1, h2⟩ := toD_word (k cc hc)
    rw [e]
    exact ⟨by simp [isPart, h2], w, r, rfl, h1⟩
  rw [call_at hp rfl]
  generalize q.kids.map Q.toD = cs at hl0 hpart hf
  rw [← hl0] at f hz
  generalize q.hd = hh at f
  have last : ∀ (w : Str) (L : List D), L.length ≤ 100 → (∀ x ∈ L, (∃ y, x = D.str y) ∨ ∃ w r, x = .tup (.str w :: r) ∧ w ∈ words) → L.filter isPart = cs → ∀ k : List D → Sto → Res RD,
      cpK (.v 2) none (den (callN T m) T.gc (.and (.isin (.var 2) .tuple) (.cmp .ne (.ix (.var 2) (.int 0)) (.str "choice")))).b (den (callN T m) T.gc (.var 2)).v (wipeL [some (.tup (.str w :: L)), some (.str w), none, none, none] [2]) L [] s k = k cs s := by
    intro w L hL hx e k
    rw [cp_if (β := RD) (cf := callN T m) (g := T.gc) (s := s) (src := none) (p := isPart) (f := id) trivial (acc := []) (by rw [sizeLine_eq]; simp; omega) fun x hx' K1 K2 => lp_step (hx x hx') K1 K2]
    rw [e]; simp
  cases hh with
  | leaf w d =>
    obtain ⟨f1, f2, _⟩ := f
    have hn : cs = [] := List.eq_nil_of_length_eq_zero f1
    subst hn
    obtain ⟨_, q1, _⟩ := wb_of (s := s) (wc_leaf w f2)
    simp -implicitDefEqProofs [f_parts, b_parts, mkD, q1, hf]
  | rcd ns =>
    obtain ⟨f1, _, _⟩ := f
    obtain ⟨_, q1, _, _, q2, _⟩ := wb_of (s := s) wc_rcd
    have e3 := cp_all (β := RD) (cf := callN T m) (g := T.gc) (s := s) (src := none) (tg := .c (.v 3) (.c (.v 2) .n)) (c := .nil) (elt := .var 2) (l := wipeL [some (mkD (.rcd ns) cs), some (.str "record"), none, none, none] [3, 2]) trivial (acc := [])
      (ds := List.zipWith (fun n c => D.tup [.str n, c]) ns cs) (ys := cs) (by rw [List.length_zipWith, sizeLine_eq]; simp; omega) (All2.zw f1.symm fun a _ b _ K1 K2 => by simp [wipeL])
    simp [mkD] at e3
    simp -implicitDefEqProofs [f_parts, b_parts, mkD, q1, q2, hf, e3]
  | mat ns =>
    obtain ⟨f1, _, _⟩ := f
    match cs, f1, hz, hf with
    | c0 :: cs, f1, hz, hf =>
      obtain ⟨_, q1, _, _, q2, q3, _⟩ := wb_of (s := s) wc_mat
      have e3 := cp_all (β := RD) (cf := callN T m) (g := T.gc) (s := s) (src := none) (tg := .c (.v 3) (.c (.v 4) (.c (.v 2) .n))) (c := .nil) (elt := .var 2) (l := wipeL [some (mkD (.mat ns) (c0 :: cs)), some (.str "match"), none, none, none] [3, 4, 2]) trivial (acc := [])
        (ds := List.zipWith (fun (n : Str × Str) c => D.tup [.str n.1, .str n.2, c]) ns cs) (ys := cs) (by rw [List.length_zipWith, sizeLine_eq]; simp at hz ⊢; omega) (All2.zw (by simpa using f1.symm) fun a _ b _ K1 K2 => by simp [wipeL])
      simp [mkD] at e3
      have hz2 : [c0].length + cs.length ≤ sizeLine := by rw [sizeLine_eq]; simp at hz ⊢; omega
      simp -implicitDefEqProofs [f_parts, b_parts, mkD, q1, q2, q3, hf, e3, bin_ll hz2]
  | fld w x =>
    obtain ⟨f1, f2, _⟩ := f
    obtain ⟨c0, rfl⟩ := one_of f1
    have p0 := hpart c0 (.head _)
    have e3 := last w [c0, .str x] (by simp) (by intro y hy; simp at hy; rcases hy with rfl | rfl; exact .inr p0.2; exact .inl ⟨_, rfl⟩) (by simp [List.filter_cons, p0.1, ip_str, ip_cho])
    rcases List.mem_cons.mp f2 with rfl | f2
    · obtain ⟨_, q1, _, _, q2, q3, q4, _⟩ := wb_of (s := s) wc_fld
      simp -implicitDefEqProofs [f_parts, b_parts, mkD, q1, q2, q3, q4, e3, hf]
    · rcases List.mem_cons.mp f2 with rfl | f2
      · obtain ⟨_, q1, _, _, q2, q3, q4, q5, _⟩ := wb_of (s := s) wc_cas
        simp -implicitDefEqProofs [f_parts, b_parts, mkD, q1, q2, q3, q4, q5, e3, hf]
      · cases f2
  | tag kk x =>
    obtain ⟨f1, f2, _⟩ := f
    obtain ⟨c0, rfl⟩ := one_of f1
    have p0 := hpart c0 (.head _)
    have e3 := last "tag" [.tup (.str "choice" :: kk), .str x, c0] (by simp) (by
      intro y hy; simp at hy
      rcases hy with rfl | rfl | rfl
      · exact .inr ⟨_, _, rfl, w_cho⟩
      · exact .inl ⟨_, rfl⟩
      · exact .inr p0.2) (by simp [List.filter_cons, p0.1, ip_str, ip_cho])
    obtain ⟨_, q1, _, _, q2, q3, q4, q5, q6, _⟩ := wb_of (s := s) wc_tag
    simp -implicitDefEqProofs [f_parts, b_parts, mkD, q1, q2, q3, q4, q5, q6, e3, hf]
  | bnd w x =>
    obtain ⟨f1, f2, _⟩ := f
    obtain ⟨c0, c1, rfl⟩ := two_of f1
    have p0 := hpart c0 (.head _)
    have p1 := hpart c1 (.tail _ (.head _))
    have e3 := last w [.str x, c0, c1] (by simp) (by
      intro y hy; simp at hy
      rcases hy with rfl | rfl | rfl
      · exact .inl ⟨_, rfl⟩
      · exact .inr p0.2
      · exact .inr p1.2) (by simp [List.filter_cons, p0.1, p1.1, ip_str, ip_cho])
    obtain ⟨_, q1, _, _, q2, q3, q4, q5, q6, _⟩ := wb_of (s := s) (wc_bind w f2)
    simp -implicitDefEqProofs [f_parts, b_parts, mkD, q1, q2, q3, q4, q5, q6, e3, hf]
  | pln w =>
    obtain ⟨f1, f0, f2⟩ := f
    have e3 := last w cs (by omega) (fun y hy => .inr (hpart y hy).2) (List.filter_eq_self.mpr fun y hy => (hpart y hy).1)
    obtain ⟨_, q1, _, _, q2, q3, q4, q5, q6, _⟩ := wb_of (s := s) (wc_pln w f2)
    simp -implicitDefEqProofs [f_parts, b_parts, mkD, q1, q2, q3, q4, q5, q6, e3, hf]
theorem t_law_places (E : EP T c g) (hp : T.fns[c "_law_parts"]? = some (f_parts c g)) (hq' : T.fns[c "_law_places"]? = some (f_places c g)) : ∀ {n m : Nat} {q : Q} {s : Sto}, n + 2 ≤ m → n ≤ 1000 → Clo s → Q.ok n q → q.sz ≤ 1000000 → callN T m (c "_law_places") [q.toD] s = .ok (.l (q.pls.map plD)) s := by
  intro n
  induction n with
  | zero => intro m q s _ _ _ h; exact h.elim
  | succ n ih =>
    intro m q s hm hn hs hq hz
    obtain ⟨m, rfl⟩ : ∃ k, m = k + 1 := ⟨m - 1, by omega⟩
    have h1 := t_law_parts E hp (m := m) (by omega) hs hq
    have hlen : (plss 0 q.kids).length + 1 = q.sz := by rw [plss_len, sz_node]
    obtain ⟨l2, s2, ⟨k, done, cs, o2, o3, o4, i1, i2, i3, i4, i5⟩, e2⟩ := for_go (β := RD) (cf := callN T m) (g := T.gc) (tg := .c (.v 2) (.c (.v 3) .n)) (src := none) (u := .cons (.set (.v 1) (.frz (.bin .add (.var 1) (.cp (.bin .add (.tup (.cons (.var 2) .nil)) (.var 4)) (.v 4) (.call (c "_law_places") (.cons (.var 3) .nil)) .nil [4])))) .nil)
      (I := fun rest l s' => ∃ (k : Nat) (done : List (List Nat)) (cs : List Q) (o2 o3 o4 : Option D), rest = numbered k (cs.map Q.toD) ∧ l = [some q.toD, some (.lf (done.map plD)), o2, o3, o4] ∧ s' = s ∧ done ++ plss k cs = plss 0 q.kids ∧ ∀ x ∈ cs, x ∈ q.kids)
      (ds := numbered 0 (q.kids.map Q.toD)) (l := [some q.toD, some (.lf []), none, none, none]) (s := s) ⟨0, [], q.kids, none, none, none, rfl, rfl, rfl, rfl, fun x hx => hx⟩ (fun _ _ _ _ => trivial) (by
        rintro x rest l s' ⟨k, done, cs, o2, o3, o4, i1, rfl, rfl, i4, i5⟩
        obtain ⟨y, ys, e1, rfl, rfl⟩ := numbered_cons i1
        obtain ⟨cc, r, rfl, rfl, rfl⟩ := map_cons_of e1
        have hcc := hq.2 cc (i5 cc (.head _))
        have hzc := sz_kid (i5 cc (.head _))
        have h2 := ih (m := m) (q := cc) (s := s') (by omega) (by omega) hs hcc (by omega)
        have h3 := cp_num (T := T) (m := m) (s := s') (i := k) (x0 := some q.toD) (x1 := some (.lf (done.map plD))) (x3 := some cc.toD) (x4 := o4) (ps := cc.pls) (src := none) trivial (by show cc.sz ≤ _; omega) (fun p hp => by have := pls_len hp hcc; omega)
        have hl : done.length + (plss k (cc :: r)).length = (plss 0 q.kids).length := by rw [← i4, List.length_append]
        have hl2 : (plss k (cc :: r)).length = cc.pls.length + (plss (k + 1) r).length := by rw [plss, List.length_append, List.length_map]
        have h4 := bin_fl (s := s') (xs := done.map plD) (ys := (cc.pls.map (k :: ·)).map plD) (by rw [List.length_map, List.length_map, List.length_map, sizeLine_eq]; omega)
        rw [← List.map_append] at h4
        refine ⟨[some q.toD, some (.lf ((done ++ cc.pls.map (k :: ·)).map plD)), some (.int k), some cc.toD, o4], s', ⟨k + 1, done ++ cc.pls.map (k :: ·), r, _, _, _, rfl, rfl, rfl, ?_, fun x hx => i5 x (.tail _ hx)⟩, fun F => ?_⟩
        · rw [← i4, plss, List.append_assoc]
        · simp [-List.map_append, -List.map_map, callK_of h2, h3, h4])
    have hcs : cs = [] := by
      have := numbered_nil i1.symm
      simpa using this
    subst hcs
    rw [plss, List.append_nil] at i4
    subst i2 i3
    have h5 := bin_fl (s := s2) (xs := done.map plD) (ys := [.tup []]) (by rw [List.length_map, i4, sizeLine_eq]; simp; omega)
    have h6 : done.map plD ++ [D.tup []] = q.pls.map plD := by rw [pls_node, ← i4, List.map_append]; rfl
    rw [h6] at h5
    have hf := fin_ls hs (pls_ltAll (n := s2.length) q.pls)
    rw [call_at hq' rfl]
    simp -implicitDefEqProofs [-List.map_append, f_places, b_places, callK_of h1, e2, h5, hf]
theorem pl_pre (p r : List Nat) : (plD p) = .tup (p.map fun i : Nat => D.int i) := rfl
theorem t_behind {f : Fn} {i : Nat} (hb : T.fns[i]? = some ⟨"_law_behind", ["_law_place", "_law_other"], ["_law_place", "_law_other"], .cons (.ret (.cmp .eq (.sl (.var 0) .nil (.b1 .len (.var 1))) (.var 1))) .nil⟩) {m : Nat} {s : Sto} {p r : List Nat} (hm : 1 ≤ m) (hs : Clo s) : callN T m i [plD p, plD r] s = .ok (.d (.bl (decide (r <+: p)))) s := by
  obtain ⟨m, rfl⟩ : ∃ k, m = k + 1 := ⟨m - 1, by omega⟩
  have e1 := pl_eq2 (s := s) (p.take r.length) r
  have hf := fin_d (d := .bl (decide (r <+: p))) hs rfl
  have e2 : cutD (p.map fun i : Nat => D.int i) none (some (r.length : Int)) = (p.take r.length).map fun i : Nat => D.int i := by rw [cut_to, List.map_take]
  have e3 : (p.take r.length = r) ↔ (r <+: p) := ⟨fun h => by rw [← h]; exact List.take_prefix _ _, fun h => (List.prefix_iff_eq_take.mp h).symm⟩
  have e4 : (decide (p.take r.length = r)) = decide (r <+: p) := by simp only [e3]
  rw [e4] at e1
  rw [call_at hb rfl]
  unfold plD at e1 ⊢
  rw [List.map_take] at e1 e2
  have evo_b1 : ∀ (l : Loc) (k : Option Int → Sto → Res RD), evo (callN T m) T.gc (.b1 .len (.var 1)) l s k = ev (callN T m) T.gc (.b1 .len (.var 1)) l s fun y s1 => inK y s1 k := fun l k => evo_some rfl
  simp [evo_b1, e2, e1, hf]
theorem zw_get {α : Type} {f : α → D → D} : ∀ {ns : List α} {cs : List D} {i : Nat} {n : α} {x : D}, ns[i]? = some n → cs[i]? = some x → (List.zipWith f ns cs)[i]? = some (f n x)
  | [], _, _, _, _, h, _ => by simp at h
  | _ :: _, [], _, _, _, _, h => by simp at h
  | a :: ns, b :: cs, 0, n, x, h, h2 => by simp at h h2; subst h; subst h2; rfl
  | a :: ns, b :: cs, i + 1, n, x, h, h2 => by
    simp at h h2
    rw [List.zipWith_cons_cons, List.getElem?_cons_succ]
    exact zw_get h h2
theorem zw_set {α : Type} {f : α → D → D} {y : D} : ∀ {ns : List α} {cs : List D} {i : Nat} {n : α}, ns[i]? = some n → (List.zipWith f ns cs).set i (f n y) = List.zipWith f ns (cs.set i y)
  | [], _, _, _, h => by simp at h
  | _ :: _, [], _, _, _ => by simp
  | a :: ns, b :: cs, 0, n, h => by simp at h; subst h; rfl
  | a :: ns, b :: cs, i + 1, n, h => by
    simp at h
    rw [List.zipWith_cons_cons, List.set_cons_succ, List.set_cons_succ, List.zipWith_cons_cons, zw_set h]
/-- what the exchange leaves -/
theorem t_law_with (E : EP T c g) (hw : T.fns[c "_law_with"]? = some (f_with c g)) {k : Nat} {o : Q} (ho : Q.ok k o) : ∀ {p : List Nat} {q d : Q} {n m : Nat} {s : Sto}, p.length + 1 ≤ m → Clo s → Q.ok n q → getAt q p = some d → callN T m (c "_law_with") [q.toD, plD p, o.toD] s = .ok (.d (put o q p).toD) s
  | [], q, d, n, m, s, hm, hs, hq, e => by
    obtain ⟨m, rfl⟩ : ∃ k, m = k + 1 := ⟨m - 1, by omega⟩
    have hf := fin_d hs (ho.lt (m := s.length))
    have h1 := pl_eq (s := s) []
    rw [call_at hw rfl]
    simp -implicitDefEqProofs [f_with, b_with, h1, put, hf]
  | i :: p, q, d, n, m, s, hm, hs, hq, e => by
    obtain ⟨m, rfl⟩ : ∃ k, m = k + 1 := ⟨m - 1, by omega⟩
    rw [List.length_cons] at hm
    obtain ⟨x, e1, e2⟩ := getAt_cons e
    have hx : Q.ok n x := ok_get (p := [i]) hq (by show (q.kids[i]?).bind _ = _; rw [e1]; rfl)
    have hlt := (List.getElem?_eq_some_iff.mp e1).1
    have hr := ok_put ho hq e
    have hpx : Q.ok (n + k) (put o x p) := ok_put ho hx e2
    obtain ⟨n', rfl⟩ : ∃ k, n = k + 1 := by cases n with
      | zero => exact hq.elim
      | succ k => exact ⟨k, rfl⟩
    have h0 := pl_eq (s := s) (i :: p)
    have hcut : (plD (i :: p)) = .tup (.int i :: p.map fun i : Nat => D.int i) := rfl
    have hcp : D.tup (p.map fun i : Nat => D.int i) = plD p := rfl
    have ih : ∀ s1 : Sto, Clo s1 → callN T m (c "_law_with") [x.toD, plD p, o.toD] s1 = .ok (.d (put o x p).toD) s1 := fun s1 hs1 => t_law_with E hw ho (by omega) hs1 hx e2
    have hres : (put o q (i :: p)).toD = mkD q.hd ((q.kids.map Q.toD).set i (put o x p).toD) := by rw [put_cons e1, toD_node]; show mkD q.hd ((q.kids.set i _).map _) = _; rw [List.map_set]
    have hf : ∀ gg, Nv.fin s.length (.d (put o q (i :: p)).toD) (s ++ gg) = .ok (.d (put o q (i :: p)).toD) s := fun gg => fin_g hs (hr.lt (m := s.length))
    have hf0 : Nv.fin s.length (.d (put o q (i :: p)).toD) s = .ok (.d (put o q (i :: p)).toD) s := fin_pure hs (hr.lt (m := s.length))
    rw [hres] at hf hf0 ⊢
    have hks := oks_lt (m := s.length + 1) hq.2
    have hx1 : (q.kids.map Q.toD)[i]? = some x.toD := by rw [List.getElem?_map, e1]; rfl
    have hl0 : (q.kids.map Q.toD).length = q.kids.length := List.length_map _
    obtain ⟨f, _⟩ := hq
    have hz := fits_few f
    rw [toD_node q, call_at hw rfl]
    generalize q.kids.map Q.toD = cs at hl0 hf hf0 hks hx1 ⊢
    rw [← hl0] at f hz hlt
    generalize q.hd = hh at f hf hf0 ⊢
    rw [hcut] at h0
    simp at h0
    cases hh with
    | leaf w dd => exact absurd f.1 (by omega)
    | rcd ns =>
      obtain ⟨f1, _, _⟩ := f
      obtain ⟨q1, q1', _, _, q2, _⟩ := wb_of (s := s) wc_rcd
      obtain ⟨y, hy⟩ : ∃ y, ns[i]? = some y := ⟨_, List.getElem?_eq_getElem (by omega)⟩
      have hR : (List.zipWith (fun n c => D.tup [.str n, c]) ns cs)[i]? = some (.tup [.str y, x.toD]) := zw_get hy hx1
      have hS := zw_set (f := fun n c => D.tup [.str n, c]) (ns := ns) (cs := cs) (y := (put o x p).toD) hy
      have hcl : Clo (s ++ [.lst (List.zipWith (fun n c => D.tup [.str n, c]) ns cs)]) := hs.push (zw_lt fun a _ b hb => by simp [D.lt, D.ltAll, lt_mem hks hb])
      have hL : (List.zipWith (fun n c => D.tup [.str n, c]) ns cs).length = cs.length := by rw [List.length_zipWith]; omega
      simp only [mkD] at hf ⊢
      rw [← hS] at hf ⊢
      generalize List.zipWith (fun n c => D.tup [.str n, c]) ns cs = R at hR hf hcl hL
      have hai : atI R (i : Int) = some (.tup [.str y, x.toD]) := atI_nat hR
      have hix := ixN_nat (n := R.length) (i := i) (by omega)
      have m1 : (s ++ [Ob.lst R])[s.length]? = some (.lst R) := mid_at
      have m2 : (s ++ [Ob.lst R]).set s.length (.lst (R.set i (.tup [.str y, (put o x p).toD]))) = s ++ [.lst (R.set i (.tup [.str y, (put o x p).toD]))] := set_mid
      have m3 := tuple_obj (s := s ++ [.lst (R.set i (.tup [.str y, (put o x p).toD]))]) (k := s.length) mid_at
      simp -implicitDefEqProofs [f_with, b_with, hcut, hcp, h0, q2, m1, hai, callK_of (ih _ hcl), hix, m2, m3, hf]
    | mat ns =>
      obtain ⟨f1, _, _⟩ := f
      obtain ⟨_, _, _, q4, q2, q3, _, _, q5, _⟩ := wb_of (s := s) wc_mat
      cases i with
      | zero =>
        match cs, hx1, f1, hf0 with
        | c0 :: cs, hx1, f1, hf0 =>
          simp at hx1 h0
          subst hx1
          simp [mkD] at hf0
          simp -implicitDefEqProofs [f_with, b_with, mkD, hcut, hcp, h0, q2, q3, q4, q5, callK_of (ih _ hs), hf0]
      | succ i =>
        match cs, hx1, f1, hf, hks, hlt with
        | c0 :: cs, hx1, f1, hf, hks, hlt =>
          simp at hx1 f1 hlt h0
          obtain ⟨y, hy⟩ : ∃ y, ns[i]? = some y := ⟨_, List.getElem?_eq_getElem (by omega)⟩
          have hks2 : D.ltAll (s.length + 1) cs = true := by unfold D.ltAll at hks; rw [Bool.and_eq_true] at hks; exact hks.2
          have hR : (List.zipWith (fun (n : Str × Str) c => D.tup [.str n.1, .str n.2, c]) ns cs)[i]? = some (.tup [.str y.1, .str y.2, x.toD]) := zw_get (f := fun (n : Str × Str) c => D.tup [.str n.1, .str n.2, c]) hy hx1
          have hS := zw_set (f := fun (n : Str × Str) c => D.tup [.str n.1, .str n.2, c]) (ns := ns) (cs := cs) (y := (put o x p).toD) hy
          have hcl : Clo (s ++ [.lst (List.zipWith (fun (n : Str × Str) c => D.tup [.str n.1, .str n.2, c]) ns cs)]) := hs.push (zw_lt fun a _ b hb => by simp [D.lt, D.ltAll, lt_mem hks2 hb])
          have hL : (List.zipWith (fun (n : Str × Str) c => D.tup [.str n.1, .str n.2, c]) ns cs).length = cs.length := by rw [List.length_zipWith]; omega
          simp only [mkD, List.set_cons_succ, List.headD_cons, List.tail_cons] at hf ⊢
          rw [← hS] at hf ⊢
          generalize List.zipWith (fun (n : Str × Str) c => D.tup [.str n.1, .str n.2, c]) ns cs = R at hR hf hcl hL
          have hai : atI R (i : Int) = some (.tup [.str y.1, .str y.2, x.toD]) := atI_nat hR
          have hix := ixN_nat (n := R.length) (i := i) (by omega)
          have m1 : (s ++ [Ob.lst R])[s.length]? = some (.lst R) := mid_at
          have m2 : (s ++ [Ob.lst R]).set s.length (.lst (R.set i (.tup [.str y.1, .str y.2, (put o x p).toD]))) = s ++ [.lst (R.set i (.tup [.str y.1, .str y.2, (put o x p).toD]))] := set_mid
          have m3 := tuple_obj (s := s ++ [.lst (R.set i (.tup [.str y.1, .str y.2, (put o x p).toD]))]) (k := s.length) mid_at
          have hpos : (0 : Int) < (i : Int) + 1 := by omega
          have hsub : (i : Int) + 1 - 1 = i := by omega
          simp -implicitDefEqProofs [f_with, b_with, hcut, hcp, h0, q2, q3, hpos, hsub, m1, hai, callK_of (ih _ hcl), hix, m2, m3, hf]
    | fld w y =>
      obtain ⟨f1, f2, _⟩ := f
      obtain ⟨c0, rfl⟩ := one_of f1
      have hi : i = 0 := by simp at hlt; exact hlt
      subst hi
      simp at hx1 h0
      subst hx1
      simp [mkD] at hf0
      rcases List.mem_cons.mp f2 with rfl | f2
      · obtain ⟨_, _, _, q4, q2, q3, _, _, q5, _⟩ := wb_of (s := s) wc_fld
        simp -implicitDefEqProofs [f_with, b_with, mkD, hcut, hcp, h0, q2, q3, q4, q5, callK_of (ih _ hs), hf0]
      · rcases List.mem_cons.mp f2 with rfl | f2
        · obtain ⟨_, _, _, q4, q2, q3, _, _, q5, _⟩ := wb_of (s := s) wc_cas
          simp -implicitDefEqProofs [f_with, b_with, mkD, hcut, hcp, h0, q2, q3, q4, q5, callK_of (ih _ hs), hf0]
        · cases f2
    | tag kk y =>
      obtain ⟨f1, f2, _⟩ := f
      obtain ⟨c0, rfl⟩ := one_of f1
      have hi : i = 0 := by simp at hlt; exact hlt
      subst hi
      simp at hx1 h0
      subst hx1
      simp [mkD] at hf0
      obtain ⟨_, _, _, q4, q2, q3, _, _, q5, _⟩ := wb_of (s := s) wc_tag
      simp -implicitDefEqProofs [f_with, b_with, mkD, hcut, hcp, h0, q2, q3, q4, q5, callK_of (ih _ hs), hf0]
    | bnd w y =>
      obtain ⟨f1, f2, _⟩ := f
      obtain ⟨c0, c1, rfl⟩ := two_of f1
      obtain ⟨_, _, _, q4, q2, q3, _, _, q5, _⟩ := wb_of (s := s) (wc_bind w f2)
      have hi : i = 0 ∨ i = 1 := by simp at hlt; omega
      rcases hi with rfl | rfl
      · simp at hx1 h0
        subst hx1
        simp [mkD] at hf0
        simp -implicitDefEqProofs [f_with, b_with, mkD, hcut, hcp, h0, q2, q3, q4, q5, callK_of (ih _ hs), hf0]
      · simp at hx1 h0
        subst hx1
        simp [mkD] at hf0
        simp -implicitDefEqProofs [f_with, b_with, mkD, hcut, hcp, h0, q2, q3, q4, q5, callK_of (ih _ hs), hf0]
    | pln w =>
      obtain ⟨f1, f00, f2⟩ := f
      obtain ⟨_, _, _, q4, q2, q3, _, _, q5, _⟩ := wb_of (s := s) (wc_pln w f2)
      have hi : i = 0 ∨ i = 1 ∨ i = 2 := by omega
      match cs, hlt, hx1, hf0, f00 with
      | [c0], hlt, hx1, hf0, _ =>
        have hi : i = 0 := by simp at hlt; exact hlt
        subst hi
        simp at hx1 h0
        subst hx1
        simp [mkD] at hf0
        simp -implicitDefEqProofs [f_with, b_with, mkD, hcut, hcp, h0, q2, q3, q4, q5, callK_of (ih _ hs), hf0]
      | [c0, c1], hlt, hx1, hf0, _ =>
        have hi : i = 0 ∨ i = 1 := by simp at hlt; omega
        rcases hi with rfl | rfl <;>
        · simp at hx1 h0
          subst hx1
          simp [mkD] at hf0
          simp -implicitDefEqProofs [f_with, b_with, mkD, hcut, hcp, h0, q2, q3, q4, q5, callK_of (ih _ hs), hf0]
      | [c0, c1, c2], hlt, hx1, hf0, _ =>
        rcases hi with rfl | rfl | rfl <;>
        · simp at hx1 h0
          subst hx1
          simp [mkD] at hf0
          simp -implicitDefEqProofs [f_with, b_with, mkD, hcut, hcp, h0, q2, q3, q4, q5, callK_of (ih _ hs), hf0]
      | _ :: _ :: _ :: _ :: _, _, _, _, f00 => simp at f00
end Nv.S2

set_option Elab.async false
set_option maxRecDepth 100000
set_option autoImplicit false
set_option linter.all false
set_option maxHeartbeats 2000000
/-! S2e: the drawing of questions: digits, names, kinds -/
namespace Nv
open PySem PySem.Spec PyProof.Rows L2
@[simp] theorem ix30 : ixN 3 0 = some 0 := by decide
@[simp] theorem ix31 : ixN 3 1 = some 1 := by decide
@[simp] theorem ix32 : ixN 3 2 = some 2 := by decide
theorem three_of {α : Type} {xs : List α} (h : xs.length = 3) : ∃ x y z, xs = [x, y, z] := by
  match xs, h with
  | [x, y, z], _ => exact ⟨x, y, z, rfl⟩
theorem divW {k : Int} {i : Int} (h1 : 0 < k) (h2 : k < 2 ^ 250) : CDivW i k := by
  refine ⟨h1, ?_⟩
  have e : k.natAbs ≠ 0 := by omega
  have h3 : k.natAbs < 2 ^ 250 := by
    have : ((k.natAbs : Nat) : Int) < 2 ^ 250 := by omega
    exact_mod_cast this
  have := (Nat.log2_lt e).mpr h3
  omega
theorem ix_str {s : Sto} {x : Str} {i : Int} {ch : Nat} (h : x.length ≤ sizeLine) (e : atI x.cps.toList i = some ch) : ixR s (.d (.str x)) (.d (.int i)) = some (.d (.str ⟨#[ch]⟩)) := by
  show (if x.length ≤ sizeLine then (atI x.cps.toList i).map fun c => RD.d (.str ⟨#[c]⟩) else none) = _
  rw [if_pos h, e]; rfl
theorem Pc.app {k p : Nat} {s g s2 : Sto} (h : Pc k p (s ++ g) s2) (hl : p < s.length) : ∃ s', Pc k p s s' ∧ s2 = s' ++ g := by
  obtain ⟨⟨is, e, rfl⟩, ht⟩ := h
  rw [List.set_append_left _ _ hl, third_app (by rw [List.length_set]; exact hl), third_app hl] at ht
  exact ⟨s.set p (potL is), ⟨⟨is, e, rfl⟩, ht⟩, List.set_append_left _ _ hl⟩
theorem strs_map : ∀ l : List Str, strsOf (l.map D.str) = some l
  | [] => rfl
  | x :: r => by rw [List.map_cons]; unfold strsOf; rw [strs_map r]; rfl
theorem fst_map {l : List Str} {f : Str → D} : (l.map fun x => (D.str x, f x)).map (·.1) = l.map D.str := by rw [List.map_map]; rfl
theorem dK_map {f : Str → D} (ss : List Str) : dK (ss.map fun x => (D.str x, f x)) = true := by
  unfold dK
  rw [List.all_eq_true]
  intro p hp
  obtain ⟨x, _, rfl⟩ := List.mem_map.mp hp
  rfl
theorem sorted_dctA {s : Sto} {a : RD} {ss : List Str} {f : Str → D} (e : dctAt s a = some (ss.map fun x => (D.str x, f x))) (hl : ss.length < 64) : b1R .sorted s a = some (.l ((ss.mergeSort leS).map .str)) := by
  unfold b1R
  simp only [e]
  rw [fst_map, strs_map]
  show (if ss.length < 64 then _ else none) = _
  rw [if_pos hl]
theorem sorted_dct {s : Sto} {k : Nat} {ss : List Str} {f : Str → D} (h : s[k]? = some (.dct (ss.map fun x => (D.str x, f x)))) (hl : ss.length < 64) : b1R .sorted s (.d (.obj k)) = some (.l ((ss.mergeSort leS).map .str)) :=
  sorted_dctA (f := f) (by rw [dct_obj, h]; show (if dK _ = true then some _ else none) = _; rw [if_pos (dK_map ss)]) hl
theorem dput_true {x : Str} : ∀ ss : List Str, dput (ss.map fun x => (D.str x, D.bl true)) (Sum.inr x) (D.bl true) = (if x ∈ ss then ss else ss ++ [x]).map fun x => (D.str x, D.bl true) := by
  intro ss
  unfold dput
  have hk : ∀ y : Str, keyK (.str y) = some (Sum.inr y) := fun y => rfl
  have h1 : ((ss.map fun x => (D.str x, D.bl true)).any fun p => decide (keyK p.1 = some (Sum.inr x))) = decide (x ∈ ss) := by
    induction ss with
    | nil => rfl
    | cons y r ih =>
      rw [List.map_cons, List.any_cons, ih, hk]
      by_cases e : y = x
      · subst e; simp
      · simp [e, Ne.symm e]
  rw [h1]
  by_cases h : x ∈ ss
  · rw [if_pos (decide_eq_true h), if_pos h, List.map_map]
    refine List.map_congr_left fun y _ => ?_
    show (if keyK (.str y) = some (Sum.inr x) then (D.str y, D.bl true) else (D.str y, .bl true)) = _
    split <;> rfl
  · rw [if_neg (by simpa using h), if_neg h, List.map_append]; rfl
theorem lt_keys {n : Nat} (ss : List Str) : Ob.lt n (.dct (ss.map fun x => (D.str x, D.bl true))) = true := by
  show (D.ltAll n ((ss.map fun x => (D.str x, D.bl true)).map (·.1)) && D.ltAll n ((ss.map fun x => (D.str x, D.bl true)).map (·.2))) = true
  rw [Bool.and_eq_true]
  refine ⟨ltAll_mem fun x hx => ?_, ltAll_mem fun x hx => ?_⟩ <;> rw [List.map_map] at hx <;> obtain ⟨y, _, rfl⟩ := List.mem_map.mp hx <;> rfl
end Nv
namespace Nv.S2
open PySem PySem.Spec PyProof.Rows L2
variable {T : Tab} {c g : Str → Nat}
structure EG (T : Tab) (c g : Str → Nat) : Prop where
  digit : T.fns[c "_law_digit"]? = some (f_digit c g)
  name : T.fns[c "_law_name"]? = some (f_name c g)
  names : T.fns[c "_law_names"]? = some (f_names c g)
  kind : T.fns[c "_law_kind"]? = some (f_kind c g)
  choice : T.fns[c "_law_choice"]? = some (f_choice c g)
  signs : T.fns[c "_law_signs"]? = some (f_signs c g)
  leaf : T.fns[c "_law_leaf"]? = some (f_leaf c g)
  rowed : T.fns[c "_law_rowed"]? = some (f_rowed c g)
  question : T.fns[c "_law_question"]? = some (f_question c g)
  pot : T.fns[c "_law_pot"]? = some (f_pot c g)
theorem t_digit (E : EG T c g) {m p : Nat} {s : Sto} {k : Int} (hm : 1 ≤ m) (hp : PotAt 3 p s) (h1 : 0 < k) (h2 : k < 2 ^ 250) : ∃ d s', 0 ≤ d ∧ d < k ∧ Pc 3 p s s' ∧ callN T m (c "_law_digit") [.obj p, .int k] s = .ok (.d (.int d)) s' := by
  obtain ⟨n, rfl⟩ : ∃ n, m = n + 1 := ⟨m - 1, by omega⟩
  rw [call_at E.digit rfl]
  obtain ⟨is, hl3, hp'⟩ := hp.at_
  obtain ⟨a, b, e, rfl⟩ := three_of hl3
  have hp' : s[p]? = some (Ob.lst [.int a, .int b, .int e]) := hp'
  have hl := hp.lt
  have k0 : k ≠ 0 := by omega
  have hs : ∀ o, (s.set p o)[p]? = some o := fun o => List.getElem?_set_self hl
  have d1 : CDivW a k := divW h1 h2
  have fin1 : ∀ (x y z w : Int), Nv.fin s.length (.d (.int x)) (s.set p (.lst [.int y, .int z, .int w])) = .ok (.d (.int x)) (s.set p (potL [y, z, w])) := fun x y z w => fin_set (by rw [List.length_set]) (hp.clo.set rfl) rfl
  by_cases h0 : a ≤ 0
  · have c1 : CMul b 48271 := mul_const (by decide) (by decide)
    have s1 : 0 ≤ (b * 48271 + 11).fmod 2147483647 := Int.fmod_nonneg_of_pos _ (by decide)
    have s2 : (b * 48271 + 11).fmod 2147483647 < 2147483647 := Int.fmod_lt_of_pos _ (by decide)
    have c2 : CMul ((b * 48271 + 11).fmod 2147483647) ((b * 48271 + 11).fmod 2147483647) := mul_small s1 (by omega)
    refine ⟨(((b * 48271 + 11).fmod 2147483647 * (b * 48271 + 11).fmod 2147483647).fmod 2147483629).fmod k, _, Int.fmod_nonneg_of_pos _ h1, Int.fmod_lt_of_pos _ h1, Pc.mk3 (x := a) (y := (b * 48271 + 11).fmod 2147483647) hp', ?_⟩
    simp -implicitDefEqProofs [f_digit, b_digit, hp', k0, h0, fin1, c1, c2, hs]
  · refine ⟨a.fmod k, _, Int.fmod_nonneg_of_pos _ h1, Int.fmod_lt_of_pos _ h1, Pc.mk3 (x := a.fdiv k) (y := b) hp', ?_⟩
    simp -implicitDefEqProofs [f_digit, b_digit, hp', k0, h0, fin1, bin_fdivW d1, hs]
theorem name_lits : ∀ x ∈ (["x", "y", "a", "yes", "no", "if", "rows", "key"] : List Str), NameOk x := by decide +kernel
theorem abc_let : ∀ n ∈ ("abcdefghijklmnopqrstuvwxyz" : Str).cps.toList, letter n := by decide +kernel
theorem abc_len : ("abcdefghijklmnopqrstuvwxyz" : Str).cps.toList.length = 26 := by decide +kernel
theorem t_name (E : EG T c g) {m p : Nat} {s : Sto} (hm : 2 ≤ m) (hp : PotAt 3 p s) : ∃ x s', NameOk x ∧ Pc 3 p s s' ∧ callN T m (c "_law_name") [.obj p] s = .ok (.d (.str x)) s' := by
  obtain ⟨n, rfl⟩ : ∃ n, m = n + 1 := ⟨m - 1, by omega⟩
  obtain ⟨d, s1, d1, d2, p1, e1⟩ := t_digit E (m := n) (k := 3) (by omega) hp (by decide) (by decide)
  have hp1 := p1.at_ hp
  obtain ⟨d', s2, d3, d4, p2, e2⟩ := t_digit E (m := n) (k := 8) (by omega) hp1 (by decide) (by decide)
  have hp2 := p2.at_ hp1
  by_cases h0 : 0 < d
  · obtain ⟨x, hx, ex⟩ := at_mem (xs := (["x", "y", "a", "yes", "no", "if", "rows", "key"] : List Str)) d3 d4
    have ea : atI [D.str "x", .str "y", .str "a", .str "yes", .str "no", .str "if", .str "rows", .str "key"] d' = some (.str x) := by
      show atI ((["x", "y", "a", "yes", "no", "if", "rows", "key"] : List Str).map D.str) d' = _
      rw [atI_map, ex]; rfl
    have hf := hp2.fin (r := .d (.str x)) (n := s.length) (by rw [p2.len, p1.len]) rfl
    refine ⟨x, s2, name_lits x hx, p1.trans p2, ?_⟩
    rw [call_at E.name rfl]
    simp -implicitDefEqProofs [f_name, b_name, callK_of e1, callK_of e2, h0, ea, hf]
  · obtain ⟨l2, s3, ⟨acc, o, i1, i2, i3, i4, i5⟩, e3⟩ := for_go (β := RD) (cf := callN T n) (g := T.gc) (tg := .v 2) (src := none) (u := .cons (.set (.v 1) (.bin .add (.var 1) (.ix (.str "abcdefghijklmnopqrstuvwxyz") (.call (c "_law_digit") (.cons (.var 0) (.cons (.int 26) .nil)))))) .nil)
      (I := fun rest l s' => ∃ (acc : Str) (o : Option D), Pc 3 p s s' ∧ l = [some (.obj p), some (.str acc), o] ∧ acc.cps.toList.length + rest.length = (1 + d').toNat ∧ (∀ z ∈ acc.cps.toList, letter z) ∧ PotAt 3 p s')
      (ds := upTo 0 (1 + d').toNat) (l := [some (.obj p), some (.str ""), none]) (s := s2) ⟨"", none, p1.trans p2, rfl, by rw [up_len]; exact Nat.zero_add _, fun z hz => (by cases hz), hp2⟩ (fun _ _ _ _ => trivial) (by
        rintro x rest l s' ⟨acc, o, i1, rfl, i3, i4, i5⟩
        obtain ⟨y, s4, y1, y2, p4, e4⟩ := t_digit E (m := n) (k := 26) (by omega) i5 (by decide) (by decide)
        obtain ⟨ch, hch, ech⟩ := at_mem (xs := ("abcdefghijklmnopqrstuvwxyz" : Str).cps.toList) y1 (by rw [abc_len]; exact y2)
        have e5 := ix_str (s := s4) (x := "abcdefghijklmnopqrstuvwxyz") (by rw [str_len, abc_len, sizeLine_eq]; decide) ech
        rw [List.length_cons] at i3
        have e6 := bin_str (s := s4) (x := acc) (y := ⟨#[ch]⟩) (by rw [str_len, str_len, sizeLine_eq]; show _ + 1 ≤ _; omega)
        refine ⟨[some (.obj p), some (.str (acc ++ ⟨#[ch]⟩)), some x], s4, ⟨_, _, i1.trans p4, rfl, ?_, ?_, p4.at_ i5⟩, fun F => ?_⟩
        · rw [app_cps, List.length_append]; show _ + 1 + _ = _; omega
        · intro z hz
          rw [app_cps] at hz
          rcases List.mem_append.mp hz with hz | hz
          · exact i4 z hz
          · rw [List.mem_singleton.mp hz]; exact abc_let ch hch
        · simp [callK_of e4, e5, e6])
    subst i2
    have sm : small62 (1 + d') := small_of (by omega) (by omega)
    have hf := i5.fin (r := .d (.str acc)) (n := s.length) i1.len rfl
    have i3 : acc.cps.toList.length = (1 + d').toNat := i3
    refine ⟨acc, s3, ⟨by omega, by omega, i4⟩, i1, ?_⟩
    rw [call_at E.name rfl]
    simp -implicitDefEqProofs [f_name, b_name, callK_of e1, callK_of e2, h0, range_ok sm, e3, hf]
theorem t_names (E : EG T c g) {m p : Nat} {s : Sto} {k : Nat} (hm : 3 ≤ m) (hp : PotAt 3 p s) (hk : k ≤ 8) : ∃ xs s', Srt xs ∧ (∀ x ∈ xs, NameOk x) ∧ xs.length ≤ k ∧ (1 ≤ k → xs ≠ []) ∧ Pc 3 p s s' ∧ callN T m (c "_law_names") [.obj p, .int k] s = .ok (.l (xs.map D.str)) s' := by
  obtain ⟨n, rfl⟩ : ∃ n, m = n + 1 := ⟨m - 1, by omega⟩
  obtain ⟨l2, s3, ⟨ss, sp, o, i1, i2, i3, i4, i5, i6, i7⟩, e3⟩ := for_go (β := RD) (cf := callN T n) (g := T.gc) (tg := .v 3) (src := none) (u := .cons (.setI (.var 2) (.call (c "_law_name") (.cons (.var 0) .nil)) (.bl true)) .nil)
    (I := fun rest l s' => ∃ (ss : List Str) (sp : Sto) (o : Option D), s' = sp ++ [.dct (ss.map fun x => (D.str x, D.bl true))] ∧ Pc 3 p s sp ∧ l = [some (.obj p), some (.int k), some (.obj s.length), o] ∧ ss.Nodup ∧ (∀ x ∈ ss, NameOk x) ∧ ss.length + rest.length ≤ k ∧ (rest.length < k → ss ≠ []))
    (ds := upTo 0 k) (l := [some (.obj p), some (.int k), some (.obj s.length), none]) (s := s ++ [.dct []]) ⟨[], s, none, rfl, hp.refl, rfl, .nil, fun x hx => (by cases hx), by rw [up_len]; simp, fun h => by rw [up_len] at h; omega⟩ (fun _ _ _ _ => trivial) (by
      rintro x rest l s' ⟨ss, sp, o, rfl, i2, rfl, i4, i5, i6, i7⟩
      have hps := i2.at_ hp
      have hpd : PotAt 3 p (sp ++ [.dct (ss.map fun x => (D.str x, D.bl true))]) := hps.push (lt_keys ss)
      obtain ⟨y, s4, y1, p4, e4⟩ := t_name E (m := n) (by omega) hpd
      obtain ⟨s5, p5, rfl⟩ := p4.app hps.lt
      have hlen : s5.length = s.length := by rw [p5.len, i2.len]
      rw [List.length_cons] at i6 i7
      have hset : setR (.obj s.length) (.str y) (.bl true) (s5 ++ [.dct (ss.map fun x => (D.str x, D.bl true))]) = .ok () (s5 ++ [.dct ((if y ∈ ss then ss else ss ++ [y]).map fun x => (D.str x, D.bl true))]) := by
        rw [← hlen, setR_str, mid_at]
        simp only
        rw [if_pos ⟨by rw [List.length_map, sizeLine_eq]; omega, dK_map ss⟩, dput_true, set_mid]
      refine ⟨[some (.obj p), some (.int k), some (.obj s.length), some x], _, ⟨if y ∈ ss then ss else ss ++ [y], s5, _, rfl, i2.trans p5, rfl, ?_, ?_, ?_, ?_⟩, fun F => ?_⟩
      · split
        · exact i4
        · rename_i h
          exact List.nodup_append.mpr ⟨i4, by simp, fun a ha b hb => by rw [List.mem_singleton.mp hb]; rintro rfl; exact h ha⟩
      · intro z hz
        split at hz
        · exact i5 z hz
        · rcases List.mem_append.mp hz with hz | hz
          · exact i5 z hz
          · rw [List.mem_singleton.mp hz]; exact y1
      · split
        · omega
        · rw [List.length_append]; simp; omega
      · intro _
        split
        · rename_i h; exact List.ne_nil_of_mem h
        · simp
      · simp [callK_of e4, hset])
  subst i1 i3
  have hps := i2.at_ hp
  have hlen : sp.length = s.length := i2.len
  have hso := sorted_dct (s := sp ++ [.dct (ss.map fun x => (D.str x, D.bl true))]) (k := sp.length) (ss := ss) (f := fun _ => D.bl true) mid_at (by simp at i6; omega)
  rw [hlen] at hso
  have hf : Nv.fin sp.length (.l ((ss.mergeSort leS).map D.str)) (sp ++ [.dct (ss.map fun x => (D.str x, D.bl true))]) = .ok (.l ((ss.mergeSort leS).map D.str)) sp := fin_g hps.clo (lt_strs _)
  rw [hlen] at hf
  have hpm := List.mergeSort_perm ss leS
  have sm : small62 (k : Int) := small_of (by omega) (by omega)
  refine ⟨ss.mergeSort leS, sp, sort_srt i4, fun x hx => i5 x (hpm.mem_iff.mp hx), by rw [hpm.length_eq]; simp at i6; omega, fun h e => ?_, i2, ?_⟩
  · have := hpm.length_eq
    rw [e] at this
    exact i7 (by simp; omega) (List.eq_nil_of_length_eq_zero this.symm)
  · rw [call_at E.names rfl]
    simp -implicitDefEqProofs [f_names, b_names, range_ok sm, e3, hso, hf]
end Nv.S2

set_option Elab.async false
set_option maxRecDepth 100000
set_option autoImplicit false
set_option linter.all false
set_option maxHeartbeats 2000000
/-! S2f: the drawing of kinds, leaves -/
namespace Nv.S2
open PySem PySem.Spec PyProof.Rows L2
variable {T : Tab} {c g : Str → Nat}
theorem kinds3 {w : Int} (h1 : 0 ≤ w) (h2 : w < 3) : ∃ x ∈ (["number", "text", "truth"] : List Str), atI [D.str "number", .str "text", .str "truth"] w = some (.str x) := by
  obtain ⟨x, hx, e⟩ := at_mem (xs := (["number", "text", "truth"] : List Str)) h1 h2
  refine ⟨x, hx, ?_⟩
  show atI ((["number", "text", "truth"] : List Str).map D.str) w = _
  rw [atI_map, e]; rfl
/-- rows of names and kinds -/
theorem cp_kinds {T : Tab} {m p i j : Nat} {fl : Bool} {d : Nat} {l : Loc} {s : Sto} {ns : List Str} {elt : Ex} {P : Kd → Prop} (hp : PotAt 3 p s) (hn : ns.length ≤ 8)
    (h : ∀ x ∈ ns, ∀ s1, PotAt 3 p s1 → ∃ k s2, Pc 3 p s1 s2 ∧ P k ∧ ∀ K1 : D → Sto → Res RD, btK (bindT (.v i) (.str x) l) (fun l1 => evv (callN T m) T.gc elt l1 s1 K1) = K1 (.tup [.str x, kD k]) s2) :
    ∃ rs s', Pc 3 p s s' ∧ rs.names = ns ∧ KsAll P rs ∧ ∀ k : List D → Sto → Res RD, cpK (.v i) none (den (callN T m) T.gc .nil).b (den (callN T m) T.gc elt).v l (ns.map D.str) [] s k = k (ksD rs) s' := by
  obtain ⟨ys, s', p1, al, e⟩ := cp_pot (β := RD) (cf := callN T m) (g := T.gc) (l := l) (tg := .v i) (elt := elt) (R := fun x y => ∃ n k, x = D.str n ∧ y = D.tup [.str n, kD k] ∧ P k) (src := none) (ds := ns.map D.str) (acc := []) hp (by rw [List.length_map, sizeLine_eq]; simp; omega) (fun _ _ => trivial) fun x hx s1 hp1 _ => by
    obtain ⟨y, hy, rfl⟩ := List.mem_map.mp hx
    obtain ⟨k, s2, p2, hP, e⟩ := h y hy s1 hp1
    exact ⟨_, s2, p2, ⟨y, k, rfl, rfl, hP⟩, e⟩
  obtain ⟨rs, rfl, h1, h2⟩ := rowsK al
  exact ⟨rs, s', p1, h1, h2, e⟩
theorem kD_lt {n : Nat} {k : Kd} (h : gk k) : (kD k).lt n = true := (kD_sh k h).lt
theorem t_kind (E : EG T c g) : ∀ {d m p : Nat} {s : Sto} (fl : Bool), d + 4 ≤ m → d ≤ 2 → PotAt 3 p s → ∃ k s', gk k ∧ (fl = true → flatK k) ∧ dep k ≤ d ∧ Pc 3 p s s' ∧ callN T m (c "_law_kind") [.obj p, .int d, .bl fl] s = .ok (.d (kD k)) s' := by
  intro d
  induction d with
  | zero =>
    intro m p s fl hm hd hp
    obtain ⟨n, rfl⟩ : ∃ n, m = n + 1 := ⟨m - 1, by omega⟩
    obtain ⟨w, s1, w1, w2, pc1, e1⟩ := t_digit E (m := n) (k := 6) (by omega) hp (by decide) (by decide)
    obtain ⟨x, hx, ex⟩ := kinds3 (w := w.fmod 3) (Int.fmod_nonneg_of_pos _ (by decide)) (Int.fmod_lt_of_pos _ (by decide))
    have h3 : w.fmod 3 < 3 := Int.fmod_lt_of_pos _ (by decide)
    have hf := (pc1.at_ hp).fin (r := .d (kD (.leaf x))) (n := s.length) (by rw [pc1.len]) (kD_lt (k := .leaf x) hx)
    refine ⟨.leaf x, s1, hx, fun _ => trivial, Nat.le_refl _, pc1, ?_⟩
    simp only [kD] at hf
    rw [call_at E.kind rfl]
    simp -implicitDefEqProofs [f_kind, b_kind, callK_of e1, h3, ex, hf, kD]
  | succ d ih =>
    intro m p s fl hm hd hp
    obtain ⟨n, rfl⟩ : ∃ n, m = n + 1 := ⟨m - 1, by omega⟩
    obtain ⟨w, s1, w1, w2, pc1, e1⟩ := t_digit E (m := n) (k := 6) (by omega) hp (by decide) (by decide)
    have hp1 := pc1.at_ hp
    have hd0 : ¬ ((d : Int) + 1 = 0) := by omega
    by_cases hw : w < 3
    · obtain ⟨x, hx, ex⟩ := kinds3 w1 hw
      have hf := hp1.fin (r := .d (kD (.leaf x))) (n := s.length) (by rw [pc1.len]) (kD_lt (k := .leaf x) hx)
      refine ⟨.leaf x, s1, hx, fun _ => trivial, Nat.zero_le _, pc1, ?_⟩
      simp only [kD] at hf
      rw [call_at E.kind rfl]
      simp -implicitDefEqProofs [f_kind, b_kind, callK_of e1, hw, hd0, ex, hf, kD]
    have hsub : (d : Int) + 1 - 1 = d := by omega
    by_cases hb : w = 5 ∧ fl = false
    · obtain ⟨rfl, rfl⟩ := hb
      obtain ⟨k, s2, g1, g2, g3, pc2, e2⟩ := ih (m := n) (s := s1) false (by omega) (by omega) hp1
      have hf := (pc2.at_ hp1).fin (r := .d (kD (.bag k))) (n := s.length) (by rw [pc2.len, pc1.len]) (kD_lt (k := .bag k) g1)
      refine ⟨.bag k, s2, g1, fun h => (by cases h), by show dep k + 1 ≤ _; omega, pc1.trans pc2, ?_⟩
      simp only [kD] at hf
      rw [call_at E.kind rfl]
      simp -implicitDefEqProofs [f_kind, b_kind, callK_of e1, hd0, hsub, callK_of e2, hf, kD]
    have hb2 : ¬ (w = 5 ∧ fl = false) := hb
    by_cases h4 : w = 4
    · subst h4
      obtain ⟨v, s2, v1, v2, pc2, e2⟩ := t_digit E (m := n) (k := 3) (by omega) hp1 (by decide) (by decide)
      obtain ⟨vn, rfl⟩ := Int.eq_ofNat_of_zero_le v1
      have hp2 := pc2.at_ hp1
      obtain ⟨xs, s3, hs1, hs2, hs3, hs4, pc3, e3⟩ := t_names E (m := n) (k := 1 + vn) (by omega) hp2 (by omega)
      have hp3 := pc3.at_ hp2
      obtain ⟨rs, s4, pc4, hr1, hr2, e4⟩ := cp_kinds (T := T) (ns := xs) (m := n) (i := 5) (j := 0) (fl := true) (d := d) (P := fun k => gk k ∧ (True → flatK k) ∧ dep k ≤ d) (elt := .tup (.cons (.var 5) (.cons (.frz (.call (c "_law_kind") (.cons (.var 0) (.cons (.bin .sub (.var 1) (.int 1)) (.cons (.bl true) .nil))))) .nil)))
        (l := wipeL [some (.obj p), some (.int (d + 1)), some (.bl fl), some (.int 4), some (.lf (xs.map D.str)), none] [5]) hp3 (by omega) (fun x hx s5 hp5 => by
          obtain ⟨k, s6, g1, g2, g3, pc6, e6⟩ := ih (m := n) (s := s5) true (by omega) (by omega) hp5
          refine ⟨k, s6, pc6, ⟨g1, fun _ => g2 rfl, g3⟩, fun K1 => ?_⟩
          simp -implicitDefEqProofs [wipeL, hsub, callK_of e6])
      obtain ⟨g1, g2, g3⟩ := rows_gk hr2 (by rw [hr1]; exact hs2)
      have hg : gk (.cho rs) := ⟨g1, by rw [hr1]; exact hs1, g2 trivial, by rw [hr1]; exact ⟨hs4 (by omega), by omega⟩⟩
      have hf := (pc4.at_ hp3).fin (r := .d (kD (.cho rs))) (n := s.length) (by rw [pc4.len, pc3.len, pc2.len, pc1.len]) (kD_lt hg)
      refine ⟨.cho rs, s4, hg, fun _ => g2 trivial, by show deps rs + 1 ≤ _; omega, ((pc1.trans pc2).trans pc3).trans pc4, ?_⟩
      simp only [kD] at hf
      rw [show ((1 + vn : Nat) : Int) = 1 + (vn : Int) by omega] at e3
      rw [call_at E.kind rfl]
      simp -implicitDefEqProofs [f_kind, b_kind, callK_of e1, hd0, callK_of e2, callK_of e3, e4, hf, kD]
    · obtain ⟨v, s2, v1, v2, pc2, e2⟩ := t_digit E (m := n) (k := 4) (by omega) hp1 (by decide) (by decide)
      obtain ⟨vn, rfl⟩ := Int.eq_ofNat_of_zero_le v1
      have hp2 := pc2.at_ hp1
      obtain ⟨xs, s3, hs1, hs2, hs3, hs4, pc3, e3⟩ := t_names E (m := n) (k := vn) (by omega) hp2 (by omega)
      have hp3 := pc3.at_ hp2
      obtain ⟨rs, s4, pc4, hr1, hr2, e4⟩ := cp_kinds (T := T) (ns := xs) (m := n) (i := 5) (j := 0) (fl := fl) (d := d) (P := fun k => gk k ∧ (fl = true → flatK k) ∧ dep k ≤ d) (elt := .tup (.cons (.var 5) (.cons (.frz (.call (c "_law_kind") (.cons (.var 0) (.cons (.bin .sub (.var 1) (.int 1)) (.cons (.var 2) .nil))))) .nil)))
        (l := wipeL [some (.obj p), some (.int (d + 1)), some (.bl fl), some (.int w), some (.lf (xs.map D.str)), none] [5]) hp3 (by omega) (fun x hx s5 hp5 => by
          obtain ⟨k, s6, g1, g2, g3, pc6, e6⟩ := ih (m := n) (s := s5) fl (by omega) (by omega) hp5
          refine ⟨k, s6, pc6, ⟨g1, g2, g3⟩, fun K1 => ?_⟩
          simp -implicitDefEqProofs [wipeL, hsub, callK_of e6])
      obtain ⟨g1, g2, g3⟩ := rows_gk hr2 (by rw [hr1]; exact hs2)
      have hg : gk (.rcd rs) := ⟨g1, by rw [hr1]; exact ⟨hs1, by omega⟩⟩
      have hf := (pc4.at_ hp3).fin (r := .d (kD (.rcd rs))) (n := s.length) (by rw [pc4.len, pc3.len, pc2.len, pc1.len]) (kD_lt hg)
      refine ⟨.rcd rs, s4, hg, g2, by show deps rs + 1 ≤ _; omega, ((pc1.trans pc2).trans pc3).trans pc4, ?_⟩
      simp only [kD] at hf
      rw [call_at E.kind rfl]
      by_cases h5 : w = 5
      · have hfl : fl = true := by cases fl <;> simp_all
        subst h5 hfl
        simp -implicitDefEqProofs [f_kind, b_kind, callK_of e1, hd0, callK_of e2, callK_of e3, e4, hf, kD]
      · simp -implicitDefEqProofs [f_kind, b_kind, callK_of e1, hd0, hw, h5, h4, callK_of e2, callK_of e3, e4, hf, kD]
theorem t_choice (E : EG T c g) {m p : Nat} {s : Sto} (hm : 6 ≤ m) (hp : PotAt 3 p s) : ∃ rs s', gk (.cho rs) ∧ dep (.cho rs) ≤ 2 ∧ Pc 3 p s s' ∧ callN T m (c "_law_choice") [.obj p] s = .ok (.d (kD (.cho rs))) s' := by
  obtain ⟨n, rfl⟩ : ∃ n, m = n + 1 := ⟨m - 1, by omega⟩
  obtain ⟨v, s2, v1, v2, pc2, e2⟩ := t_digit E (m := n) (k := 3) (by omega) hp (by decide) (by decide)
  obtain ⟨vn, rfl⟩ := Int.eq_ofNat_of_zero_le v1
  have hp2 := pc2.at_ hp
  obtain ⟨xs, s3, hs1, hs2, hs3, hs4, pc3, e3⟩ := t_names E (m := n) (k := 1 + vn) (by omega) hp2 (by omega)
  have hp3 := pc3.at_ hp2
  obtain ⟨rs, s4, pc4, hr1, hr2, e4⟩ := cp_kinds (T := T) (ns := xs) (m := n) (i := 2) (j := 0) (fl := true) (d := 1) (P := fun k => gk k ∧ (True → flatK k) ∧ dep k ≤ 1) (elt := .tup (.cons (.var 2) (.cons (.frz (.call (c "_law_kind") (.cons (.var 0) (.cons (.int 1) (.cons (.bl true) .nil))))) .nil)))
    (l := wipeL [some (.obj p), some (.lf (xs.map D.str)), none] [2]) hp3 (by omega) (fun x hx s5 hp5 => by
      obtain ⟨k, s6, g1, g2, g3, pc6, e6⟩ := t_kind E (d := 1) (m := n) (s := s5) true (by omega) (by omega) hp5
      refine ⟨k, s6, pc6, ⟨g1, fun _ => g2 rfl, g3⟩, fun K1 => ?_⟩
      have e6 : callN T n (c "_law_kind") [.obj p, .int 1, .bl true] s5 = .ok (.d (kD k)) s6 := e6
      simp -implicitDefEqProofs [wipeL, callK_of e6])
  obtain ⟨g1, g2, g3⟩ := rows_gk hr2 (by rw [hr1]; exact hs2)
  have hg : gk (.cho rs) := ⟨g1, by rw [hr1]; exact hs1, g2 trivial, by rw [hr1]; exact ⟨hs4 (by omega), by omega⟩⟩
  have hf := (pc4.at_ hp3).fin (r := .d (kD (.cho rs))) (n := s.length) (by rw [pc4.len, pc3.len, pc2.len]) (kD_lt hg)
  refine ⟨rs, s4, hg, by show deps rs + 1 ≤ _; omega, (pc2.trans pc3).trans pc4, ?_⟩
  simp only [kD] at hf
  rw [show ((1 + vn : Nat) : Int) = 1 + (vn : Int) by omega] at e3
  rw [call_at E.choice rfl]
  simp -implicitDefEqProofs [f_choice, b_choice, callK_of e2, callK_of e3, e4, hf, kD]
abbrev signsL : Str := "\x20!\"#$&'()*+,-./0123456789:;<=>?@ABCDEFGHIJKLMNOPQRSTUVWXYZ[\\]^_`abcdefghijklmnopqrstuvwxyz{|}~"
theorem signs_ok : ∀ n ∈ signsL.cps.toList, 32 ≤ n ∧ n ≤ 126 ∧ n ≠ 37 := by decide +kernel
theorem signs_len : signsL.cps.toList.length = 94 := by decide +kernel
theorem t_signs (E : EG T c g) {m p : Nat} {s : Sto} (hm : 2 ≤ m) (hp : PotAt 3 p s) : ∃ x s', SignsOk x ∧ Pc 3 p s s' ∧ callN T m (c "_law_signs") [.obj p] s = .ok (.d (.str x)) s' := by
  obtain ⟨n, rfl⟩ : ∃ n, m = n + 1 := ⟨m - 1, by omega⟩
  obtain ⟨d, s1, d1, d2, p1, e1⟩ := t_digit E (m := n) (k := 4) (by omega) hp (by decide) (by decide)
  have hp1 := p1.at_ hp
  obtain ⟨b, hb, eb⟩ := at_mem (xs := ([5, 5, 5, 61] : List Int)) d1 d2
  have ea : atI [D.int 5, .int 5, .int 5, .int 61] d = some (.int b) := by
    show atI (([5, 5, 5, 61] : List Int).map D.int) d = _
    rw [atI_map, eb]; rfl
  have hb2 : 0 < b ∧ b ≤ 61 := by simp at hb; omega
  obtain ⟨d', s2, d3, d4, p2, e2⟩ := t_digit E (m := n) (k := b) (by omega) hp1 hb2.1 (by omega)
  have hp2 := p2.at_ hp1
  obtain ⟨l2, s3, ⟨acc, o, i1, i2, i3, i4, i5⟩, e3⟩ := for_go (β := RD) (cf := callN T n) (g := T.gc) (tg := .v 3) (src := none) (u := .cons (.set (.v 2) (.bin .add (.var 2) (.ix (.var 1) (.call (c "_law_digit") (.cons (.var 0) (.cons (.b1 .len (.var 1)) .nil)))))) .nil)
    (I := fun rest l s' => ∃ (acc : Str) (o : Option D), Pc 3 p s s' ∧ l = [some (.obj p), some (.str signsL), some (.str acc), o] ∧ acc.cps.toList.length + rest.length = d'.toNat ∧ (∀ z ∈ acc.cps.toList, 32 ≤ z ∧ z ≤ 126 ∧ z ≠ 37) ∧ PotAt 3 p s')
    (ds := upTo 0 d'.toNat) (l := [some (.obj p), some (.str signsL), some (.str ""), none]) (s := s2) ⟨"", none, p1.trans p2, rfl, by rw [up_len]; exact Nat.zero_add _, fun z hz => (by cases hz), hp2⟩ (fun _ _ _ _ => trivial) (by
      rintro x rest l s' ⟨acc, o, i1, rfl, i3, i4, i5⟩
      obtain ⟨y, s4, y1, y2, p4, e4⟩ := t_digit E (m := n) (k := 94) (by omega) i5 (by decide) (by decide)
      obtain ⟨ch, hch, ech⟩ := at_mem (xs := signsL.cps.toList) y1 (by rw [signs_len]; exact y2)
      have hsz : signsL.length ≤ sizeLine := by rw [str_len, signs_len, sizeLine_eq]; decide
      have e5 := ix_str (s := s4) hsz ech
      have e7 : b1R .len s' (.d (.str signsL)) = some (.d (.int 94)) := by rw [len_str hsz, str_len, signs_len]; rfl
      rw [List.length_cons] at i3
      have e6 := bin_str (s := s4) (x := acc) (y := ⟨#[ch]⟩) (by rw [str_len, str_len, sizeLine_eq]; show _ + 1 ≤ _; omega)
      refine ⟨[some (.obj p), some (.str signsL), some (.str (acc ++ ⟨#[ch]⟩)), some x], s4, ⟨_, _, i1.trans p4, rfl, ?_, ?_, p4.at_ i5⟩, fun F => ?_⟩
      · rw [app_cps, List.length_append]; show _ + 1 + _ = _; omega
      · intro z hz
        rw [app_cps] at hz
        rcases List.mem_append.mp hz with hz | hz
        · exact i4 z hz
        · rw [List.mem_singleton.mp hz]; exact signs_ok ch hch
      · generalize signsL = sg at e5 e7 ⊢
        simp -implicitDefEqProofs [e7, callK_of e4, e5, e6])
  subst i2
  have i3 : acc.cps.toList.length = d'.toNat := i3
  have sm : small62 d' := small_of (by omega) (by omega)
  have hf := i5.fin (r := .d (.str acc)) (n := s.length) i1.len rfl
  refine ⟨acc, s3, ⟨by omega, i4⟩, i1, ?_⟩
  rw [call_at E.signs rfl]
  unfold signsL at e3
  simp -implicitDefEqProofs [f_signs, b_signs, callK_of e1, ea, callK_of e2, range_ok sm, e3, hf]
end Nv.S2

set_option Elab.async false
set_option maxRecDepth 100000
set_option autoImplicit false
set_option linter.all false
set_option maxHeartbeats 2000000
/-! S2g: the drawing of questions -/
namespace Nv
open PySem PySem.Spec PyProof.Rows L2
open Classical in
theorem bin_pow {s : Sto} {i j : Int} (h : CPow i j) : binR .pow s (.d (.int i)) (.d (.int j)) = some (.d (.int (i ^ j.toNat))) := by
  show (if CPow i j then some (i ^ j.toNat) else none).map _ = _
  rw [if_pos h]; rfl
end Nv
namespace Nv.S2
open PySem PySem.Spec PyProof.Rows L2
variable {T : Tab} {c g : Str → Nat}
theorem leafQ {w : Str} {d : D} (h1 : w ∈ leafW) (h2 : Sh 8 d) (h3 : ghd (.leaf w d) 0) : gq 1 (.node (.leaf w d) []) := ⟨⟨rfl, h1, h2⟩, h3, fun x hx => by cases hx⟩
theorem t_leaf (E : EG T c g) {m p : Nat} {s : Sto} {w : Int} (hm : 7 ≤ m) (h1 : 0 ≤ w) (h2 : w < 6) (hp : PotAt 3 p s) : ∃ q s', gq 1 q ∧ Pc 3 p s s' ∧ callN T m (c "_law_leaf") [.obj p, .int w] s = .ok (.d q.toD) s' := by
  obtain ⟨n, rfl⟩ : ∃ n, m = n + 1 := ⟨m - 1, by omega⟩
  have cases6 : w = 0 ∨ w = 1 ∨ w = 2 ∨ w = 3 ∨ (4 ≤ w ∧ w < 6) := by omega
  rcases cases6 with rfl | rfl | rfl | rfl | h4
  · obtain ⟨a, s1, a1, a2, p1, e1⟩ := t_digit E (m := n) (k := 2) (by omega) hp (by decide) (by decide)
    have hp1 := p1.at_ hp
    by_cases h0 : a = 0
    · subst h0
      obtain ⟨b, s2, b1, b2, p2, e2⟩ := t_digit E (m := n) (k := 19) (by omega) hp1 (by decide) (by decide)
      have hq : gq 1 (.node (.leaf "number" (.int (b - 9))) []) := leafQ (by decide) sh_int (.inl ⟨rfl, _, rfl, by omega, by omega⟩)
      have hf := (p2.at_ hp1).fin (r := .d (.tup [.str "number", .int (b - 9)])) (n := s.length) (by rw [p2.len, p1.len]) rfl
      refine ⟨_, s2, hq, p1.trans p2, ?_⟩
      rw [call_at E.leaf rfl]
      simp -implicitDefEqProofs [f_leaf, b_leaf, callK_of e1, callK_of e2, hf, Q.toD, toDs, mkD]
    · obtain ⟨b, s2, b1, b2, p2, e2⟩ := t_digit E (m := n) (k := 1999999999999999999999999999999999999999999999999999999999999) (by omega) hp1 (by decide) (by decide)
      have hq : gq 1 (.node (.leaf "number" (.int (b - 1000000000000000000000000000000000000000000000000000000000000 + 1))) []) := leafQ (by decide) sh_int (.inl ⟨rfl, _, rfl, by omega, by omega⟩)
      have hf := (p2.at_ hp1).fin (r := .d (.tup [.str "number", .int (b - 1000000000000000000000000000000000000000000000000000000000000 + 1)])) (n := s.length) (by rw [p2.len, p1.len]) rfl
      have hpw : ∀ s, binR .pow s (.d (.int 10)) (.d (.int 60)) = some (.d (.int 1000000000000000000000000000000000000000000000000000000000000)) := fun s => by
        rw [bin_pow ⟨by decide, by decide, by decide⟩]; rfl
      have hmu : ∀ s, binR .mul s (.d (.int 2)) (.d (.int 1000000000000000000000000000000000000000000000000000000000000)) = some (.d (.int 2000000000000000000000000000000000000000000000000000000000000)) := fun s => bin_mul (.inl ⟨by decide, by decide⟩)
      have hsu : (2000000000000000000000000000000000000000000000000000000000000 : Int) - 1 = 1999999999999999999999999999999999999999999999999999999999999 := by decide
      refine ⟨_, s2, hq, p1.trans p2, ?_⟩
      rw [call_at E.leaf rfl]
      simp -implicitDefEqProofs [f_leaf, b_leaf, callK_of e1, h0, hpw, hmu, hsu, callK_of e2, hf, Q.toD, toDs, mkD]
  · obtain ⟨x, s1, x1, p1, e1⟩ := t_signs E (m := n) (by omega) hp
    have hq : gq 1 (.node (.leaf "text" (.str x)) []) := leafQ (by decide) (shs x1.lv) (.inr (.inl ⟨rfl, _, rfl, x1⟩))
    have hf := (p1.at_ hp).fin (r := .d (.tup [.str "text", .str x])) (n := s.length) (by rw [p1.len]) rfl
    refine ⟨_, s1, hq, p1, ?_⟩
    rw [call_at E.leaf rfl]
    simp -implicitDefEqProofs [f_leaf, b_leaf, callK_of e1, hf, Q.toD, toDs, mkD]
  · obtain ⟨a, s1, a1, a2, p1, e1⟩ := t_digit E (m := n) (k := 2) (by omega) hp (by decide) (by decide)
    have hq : gq 1 (.node (.leaf "truth" (.bl (decide (a = 1)))) []) := leafQ (by decide) sh_bl (.inr (.inr (.inl ⟨rfl, _, rfl⟩)))
    have hf := (p1.at_ hp).fin (r := .d (.tup [.str "truth", .bl (decide (a = 1))])) (n := s.length) (by rw [p1.len]) rfl
    refine ⟨_, s1, hq, p1, ?_⟩
    rw [call_at E.leaf rfl]
    simp -implicitDefEqProofs [f_leaf, b_leaf, callK_of e1, hf, Q.toD, toDs, mkD]
  · obtain ⟨k, s1, g1, g2, g3, p1, e1⟩ := t_kind E (d := 2) (m := n) (s := s) false (by omega) (by omega) hp
    have e1 : callN T n (c "_law_kind") [.obj p, .int 2, .bl false] s = .ok (.d (kD k)) s1 := e1
    have hq : gq 1 (.node (.leaf "empty" (kD k)) []) := leafQ (by decide) ((kD_sh k g1).mono (by omega)) (.inr (.inr (.inr (.inl ⟨rfl, _, rfl, g1, g3⟩))))
    have hf := (p1.at_ hp).fin (r := .d (.tup [.str "empty", kD k])) (n := s.length) (by rw [p1.len]) (by have := kD_lt (n := s.length) g1; simp [RD.lt, D.lt, D.ltAll, this])
    refine ⟨_, s1, hq, p1, ?_⟩
    rw [call_at E.leaf rfl]
    simp -implicitDefEqProofs [f_leaf, b_leaf, callK_of e1, hf, Q.toD, toDs, mkD]
  · obtain ⟨x, s1, x1, p1, e1⟩ := t_name E (m := n) (by omega) hp
    have hq : gq 1 (.node (.leaf "name" (.str x)) []) := leafQ (by decide) (shs x1.lv) (.inr (.inr (.inr (.inr ⟨rfl, _, rfl, x1⟩))))
    have hf := (p1.at_ hp).fin (r := .d (.tup [.str "name", .str x])) (n := s.length) (by rw [p1.len]) rfl
    have n0 : ¬ w = 0 := by omega
    have n1 : ¬ w = 1 := by omega
    have n2 : ¬ w = 2 := by omega
    have n3 : ¬ w = 3 := by omega
    refine ⟨_, s1, hq, p1, ?_⟩
    rw [call_at E.leaf rfl]
    simp -implicitDefEqProofs [f_leaf, b_leaf, n0, n1, n2, n3, callK_of e1, hf, Q.toD, toDs, mkD]
/-! how large a question may be: B d e for depth d, e parts left -/
def Bq (d : Nat) (e : Int) : Int := if e ≤ 0 then 1 else e + 3 * d + 1
def PQ (T : Tab) (c : Str → Nat) (d : Nat) : Prop := ∀ (m p : Nat) (s : Sto), 2 * d + 8 ≤ m → PotAt 3 p s → ∃ q s', gq (d + 1) q ∧ Pa 3 p s s' ∧ (third s' p = third s p - q.sz ∧ (q.sz : Int) ≤ Bq d (third s p)) ∧ callN T m (c "_law_question") [.obj p, .int d] s = .ok (.d q.toD) s'
/-- parts one behind the other -/
inductive Ch (d : Nat) : Int → List Q → Prop
  | nil {e : Int} : Ch d e []
  | cons {e : Int} {q : Q} {qs : List Q} : (q.sz : Int) ≤ Bq d e → Ch d (e - q.sz) qs → Ch d e (q :: qs)
theorem Ch.tot {d : Nat} {e : Int} {qs : List Q} (h : Ch d e qs) : (e ≤ 0 → szs qs ≤ qs.length) ∧ (szs qs : Int) ≤ max e 0 + 3 * d + qs.length := by
  induction h with
  | nil => exact ⟨fun _ => Nat.le_refl _, by show ((0 : Nat) : Int) ≤ _; simp; omega⟩
  | @cons e q qs h1 h2 ih =>
    obtain ⟨i1, i2⟩ := ih
    have hs := sz_pos q
    unfold Bq at h1
    have e1 : szs (q :: qs) = q.sz + szs qs := rfl
    rw [e1, List.length_cons]
    by_cases he : e ≤ 0
    · rw [if_pos he] at h1
      have := i1 (by omega)
      refine ⟨fun _ => by omega, ?_⟩
      omega
    · rw [if_neg he] at h1
      refine ⟨fun h => absurd h he, ?_⟩
      by_cases h3 : e - q.sz ≤ 0
      · have := i1 h3
        omega
      · omega
def RQ (d : Nat) (p : Nat) (q : Q) (s s' : Sto) : Prop := gq (d + 1) q ∧ third s' p = third s p - q.sz ∧ (q.sz : Int) ≤ Bq d (third s p)
theorem rows_of {d p : Nat} : ∀ {ns : List Str} {ys : List D} {s s' : Sto}, AllS (fun x y s s' => ∃ (n : Str) (q : Q), x = D.str n ∧ y = D.tup [.str n, q.toD] ∧ RQ d p q s s') (ns.map D.str) ys s s' → ∃ qs : List Q, qs.length = ns.length ∧ (∀ q ∈ qs, gq (d + 1) q) ∧ ys = List.zipWith (fun n x => D.tup [.str n, x]) ns (qs.map Q.toD) ∧ third s' p = third s p - szs qs ∧ Ch d (third s p) qs
  | [], _, _, _, h => by cases h; exact ⟨[], rfl, fun q hq => (by cases hq), rfl, by show _ = _ - ((0 : Nat) : Int); omega, .nil⟩
  | n :: ns, _, _, _, h => by
    rw [List.map_cons] at h
    cases h with
    | cons h1 t =>
      obtain ⟨n', q, e1, rfl, hq, hq2, hq3⟩ := h1
      cases e1
      obtain ⟨qs, h2, h3, rfl, h4, h5⟩ := rows_of t
      have e1 : szs (q :: qs) = q.sz + szs qs := rfl
      exact ⟨q :: qs, by simp [h2], fun z hz => by
        rcases List.mem_cons.mp hz with e | hz
        · rw [e]; exact hq
        · exact h3 z hz, rfl, by rw [e1]; omega, .cons hq3 (by rw [← hq2]; exact h5)⟩
theorem rows3_of {d p : Nat} : ∀ {ns : List Str} {ys : List D} {s s' : Sto}, AllS (fun x y s s' => ∃ (n z : Str) (q : Q), x = D.str n ∧ y = D.tup [.str n, .str z, q.toD] ∧ NameOk z ∧ RQ d p q s s') (ns.map D.str) ys s s' → ∃ (zs : List (Str × Str)) (qs : List Q), zs.map (·.1) = ns ∧ (∀ z ∈ zs, NameOk z.2) ∧ qs.length = ns.length ∧ (∀ q ∈ qs, gq (d + 1) q) ∧ ys = List.zipWith (fun (n : Str × Str) x => D.tup [.str n.1, .str n.2, x]) zs (qs.map Q.toD) ∧ third s' p = third s p - szs qs ∧ Ch d (third s p) qs
  | [], _, _, _, h => by cases h; exact ⟨[], [], rfl, fun q hq => (by cases hq), rfl, fun q hq => (by cases hq), rfl, by show _ = _ - ((0 : Nat) : Int); omega, .nil⟩
  | n :: ns, _, _, _, h => by
    rw [List.map_cons] at h
    cases h with
    | cons h1 t =>
      obtain ⟨n', z, q, e1, rfl, hz, hq, hq2, hq3⟩ := h1
      cases e1
      obtain ⟨zs, qs, h2, h2', h3, h4, rfl, h5, h6⟩ := rows3_of t
      have e1 : szs (q :: qs) = q.sz + szs qs := rfl
      exact ⟨(n, z) :: zs, q :: qs, by simp [h2], fun y hy => by
        rcases List.mem_cons.mp hy with e | hy
        · rw [e]; exact hz
        · exact h2' y hy, by simp [h3], fun y hy => by
        rcases List.mem_cons.mp hy with e | hy
        · rw [e]; exact hq
        · exact h4 y hy, rfl, by rw [e1]; omega, .cons hq3 (by rw [← hq2]; exact h6)⟩
theorem qs_of {d p : Nat} : ∀ {xs ys : List D} {s s' : Sto}, AllS (fun _ y s s' => ∃ q : Q, y = q.toD ∧ RQ d p q s s') xs ys s s' → ∃ qs : List Q, qs.length = xs.length ∧ (∀ q ∈ qs, gq (d + 1) q) ∧ ys = qs.map Q.toD ∧ third s' p = third s p - szs qs ∧ Ch d (third s p) qs
  | [], _, _, _, h => by cases h; exact ⟨[], rfl, fun q hq => (by cases hq), rfl, by show _ = _ - ((0 : Nat) : Int); omega, .nil⟩
  | x :: xs, _, _, _, h => by
    cases h with
    | cons h1 t =>
      obtain ⟨q, rfl, hq, hq2, hq3⟩ := h1
      obtain ⟨qs, h2, h3, rfl, h4, h5⟩ := qs_of t
      have e1 : szs (q :: qs) = q.sz + szs qs := rfl
      exact ⟨q :: qs, by simp [h2], fun z hz => by
        rcases List.mem_cons.mp hz with e | hz
        · rw [e]; exact hq
        · exact h3 z hz, rfl, by rw [e1]; omega, .cons hq3 (by rw [← hq2]; exact h5)⟩
theorem _root_.Nv.gq.lt {n m : Nat} {q : Q} (h : gq n q) : q.toD.lt m = true := h.ok.lt
end Nv.S2

set_option Elab.async false
set_option maxRecDepth 100000
set_option autoImplicit false
set_option linter.all false
set_option maxHeartbeats 4000000
/-! S2h: the drawing of questions: heads -/
namespace Nv.S2
open PySem PySem.Spec PyProof.Rows L2
variable {T : Tab} {c g : Str → Nat}
theorem gqs_lt {d m : Nat} {qs : List Q} (h : ∀ q ∈ qs, gq d q) : D.ltAll m (qs.map Q.toD) = true := oks_lt fun q hq => (h q hq).ok
theorem node_lt {d n : Nat} {q : Q} (h : gq d q) : (RD.d q.toD).lt n = true := h.lt
theorem toD_eq (h : Hd) (qs : List Q) : (Q.node h qs).toD = mkD h (qs.map Q.toD) := by rw [Q.toD, toDs_map]
theorem leaf_sz {q : Q} (h : gq 1 q) : q.sz = 1 := by
  obtain ⟨_, _, h3⟩ := h
  have : q.kids = [] := by
    cases hk : q.kids with
    | nil => rfl
    | cons c r => exact (h3 c (by rw [hk]; exact .head _)).elim
  rw [sz_node, this]; rfl
theorem t_rowed (E : EG T c g) {d m p : Nat} {s : Sto} {w : Int} (ih : PQ T c d) (hm : 2 * d + 9 ≤ m) (h1 : 0 ≤ w) (h2 : w < 5) (hp : PotAt 3 p s) : ∃ q s', gq (d + 2) q ∧ Pa 3 p s s' ∧ (third s' p = third s p - szs q.kids ∧ Ch d (third s p) q.kids ∧ q.kids.length ≤ 4) ∧ callN T m (c "_law_rowed") [.obj p, .int d, .int w] s = .ok (.d q.toD) s' := by
  obtain ⟨n, rfl⟩ : ∃ n, m = n + 1 := ⟨m - 1, by omega⟩
  have cases5 : w = 0 ∨ w = 1 ∨ w = 2 ∨ w = 3 ∨ w = 4 := by omega
  rcases cases5 with rfl | rfl | rfl | rfl | rfl
  · obtain ⟨v, s1, v1, v2, p1, e1⟩ := t_digit E (m := n) (k := 4) (by omega) hp (by decide) (by decide)
    obtain ⟨vn, rfl⟩ := Int.eq_ofNat_of_zero_le v1
    have hp1 := p1.at_ hp
    obtain ⟨xs, s2, x1, x2, x3, _, p2, e2⟩ := t_names E (m := n) (k := vn) (by omega) hp1 (by omega)
    have hp2 := p2.at_ hp1
    obtain ⟨ys, s3, p3, al, e3⟩ := cp_potA (β := RD) (cf := callN T n) (g := T.gc) (tg := .v 5) (elt := .tup (.cons (.var 5) (.cons (.frz (.call (c "_law_question") (.cons (.var 0) (.cons (.var 1) .nil)))) .nil)))
      (l := wipeL [some (.obj p), some (.int d), some (.int 0), none, some (.lf (xs.map D.str)), none] [5]) (R := fun x y s s' => ∃ (n : Str) (q : Q), x = D.str n ∧ y = D.tup [.str n, q.toD] ∧ RQ d p q s s') (src := none) (ds := xs.map D.str) (acc := []) hp2 (by rw [List.length_map, sizeLine_eq]; simp; omega) (fun _ _ => trivial) (fun x hx s4 hp4 _ => by
        obtain ⟨y, hy, rfl⟩ := List.mem_map.mp hx
        obtain ⟨q, s5, q1, p5, b5, e5⟩ := ih n p s4 (by omega) hp4
        refine ⟨_, s5, p5, ⟨y, q, rfl, rfl, q1, b5⟩, fun K1 => ?_⟩
        simp -implicitDefEqProofs [wipeL, callK_of e5])
    obtain ⟨qs, r1, r2, rfl, r5, r6⟩ := rows_of al
    have t2 : third s2 p = third s p := by rw [p2.third, p1.third]
    rw [t2] at r5 r6
    have hq : gq (d + 2) (.node (.rcd xs) qs) := ⟨⟨r1, by show qs.length ≤ 3; omega, fun n hn => (x2 n hn).lv⟩, ⟨x1, x2⟩, r2⟩
    have hf := (p3.at_ hp2).fin (r := .d (Q.node (.rcd xs) qs).toD) (n := s.length) (by rw [p3.len, p2.len, p1.len]) (node_lt hq)
    refine ⟨_, s3, hq, (p1.a.trans p2.a).trans p3, ⟨r5, r6, by show qs.length ≤ 4; omega⟩, ?_⟩
    rw [toD_eq] at hf ⊢
    simp only [mkD] at hf ⊢
    rw [call_at E.rowed rfl]
    simp -implicitDefEqProofs [f_rowed, b_rowed, callK_of e1, callK_of e2, e3, hf]
  · obtain ⟨q0, s1, q1, p1, b1, e1⟩ := ih n p s (by omega) hp
    have hp1 := p1.at_ hp
    obtain ⟨x, s2, x1, p2, e2⟩ := t_name E (m := n) (by omega) hp1
    have hq : gq (d + 2) (.node (.fld "field" x) [q0]) := ⟨⟨rfl, by decide, x1.lv⟩, x1, fun z hz => by rw [List.mem_singleton.mp hz]; exact q1⟩
    have hf := (p2.at_ hp1).fin (r := .d (Q.node (.fld "field" x) [q0]).toD) (n := s.length) (by rw [p2.len, p1.len]) (node_lt hq)
    refine ⟨_, s2, hq, p1.trans p2.a, ⟨by rw [p2.third, b1.1]; show _ = _ - ((q0.sz + 0 : Nat) : Int); omega, .cons b1.2 .nil, by show (1 : Nat) ≤ 4; omega⟩, ?_⟩
    rw [toD_eq] at hf ⊢
    simp only [mkD, List.map, List.headD_cons] at hf ⊢
    rw [call_at E.rowed rfl]
    simp -implicitDefEqProofs [f_rowed, b_rowed, callK_of e1, callK_of e2, hf]
  · obtain ⟨q0, s1, q1, p1, b1, e1⟩ := ih n p s (by omega) hp
    have hp1 := p1.at_ hp
    obtain ⟨x, s2, x1, p2, e2⟩ := t_name E (m := n) (by omega) hp1
    have hq : gq (d + 2) (.node (.fld "case" x) [q0]) := ⟨⟨rfl, by decide, x1.lv⟩, x1, fun z hz => by rw [List.mem_singleton.mp hz]; exact q1⟩
    have hf := (p2.at_ hp1).fin (r := .d (Q.node (.fld "case" x) [q0]).toD) (n := s.length) (by rw [p2.len, p1.len]) (node_lt hq)
    refine ⟨_, s2, hq, p1.trans p2.a, ⟨by rw [p2.third, b1.1]; show _ = _ - ((q0.sz + 0 : Nat) : Int); omega, .cons b1.2 .nil, by show (1 : Nat) ≤ 4; omega⟩, ?_⟩
    rw [toD_eq] at hf ⊢
    simp only [mkD, List.map, List.headD_cons] at hf ⊢
    rw [call_at E.rowed rfl]
    simp -implicitDefEqProofs [f_rowed, b_rowed, callK_of e1, callK_of e2, hf]
  · obtain ⟨rs, s1, g1, g2, p1, e1⟩ := t_choice E (m := n) (by omega) hp
    have hp1 := p1.at_ hp
    obtain ⟨x, s2, x1, p2, e2⟩ := t_name E (m := n) (by omega) hp1
    have hp2 := p2.at_ hp1
    obtain ⟨q0, s3, q1, p3, b3, e3⟩ := ih n p s2 (by omega) hp2
    have t2 : third s2 p = third s p := by rw [p2.third, p1.third]
    rw [t2] at b3
    have hsh : Sh 8 (.tup (.str "choice" :: [.tup (ksD rs)])) := (kD_sh (.cho rs) g1).mono (by omega)
    have hq : gq (d + 2) (.node (.tag [.tup (ksD rs)] x) [q0]) := ⟨⟨rfl, hsh, x1.lv⟩, ⟨x1, rs, rfl, g1, g2⟩, fun z hz => by rw [List.mem_singleton.mp hz]; exact q1⟩
    have hf := (p3.at_ hp2).fin (r := .d (Q.node (.tag [.tup (ksD rs)] x) [q0]).toD) (n := s.length) (by rw [p3.len, p2.len, p1.len]) (node_lt hq)
    refine ⟨_, s3, hq, (p1.a.trans p2.a).trans p3, ⟨by rw [b3.1]; show _ = _ - ((q0.sz + 0 : Nat) : Int); omega, .cons b3.2 .nil, by show (1 : Nat) ≤ 4; omega⟩, ?_⟩
    rw [toD_eq] at hf ⊢
    simp only [mkD, List.map, List.headD_cons] at hf ⊢
    have e1 : callN T n (c "_law_choice") [.obj p] s = .ok (.d (.tup [.str "choice", .tup (ksD rs)])) s1 := e1
    rw [call_at E.rowed rfl]
    simp -implicitDefEqProofs [f_rowed, b_rowed, callK_of e1, callK_of e2, callK_of e3, hf]
  · obtain ⟨q0, s1, q1, p1, b1, e1⟩ := ih n p s (by omega) hp
    have hp1 := p1.at_ hp
    obtain ⟨v, s2, v1, v2, p2, e2⟩ := t_digit E (m := n) (k := 3) (by omega) hp1 (by decide) (by decide)
    obtain ⟨vn, rfl⟩ := Int.eq_ofNat_of_zero_le v1
    have hp2 := p2.at_ hp1
    obtain ⟨xs, s3, x1, x2, x3, x4, p3, e3⟩ := t_names E (m := n) (k := 1 + vn) (by omega) hp2 (by omega)
    rw [show ((1 + vn : Nat) : Int) = 1 + (vn : Int) by omega] at e3
    have hp3 := p3.at_ hp2
    obtain ⟨ys, s4, p4, al, e4⟩ := cp_potA (β := RD) (cf := callN T n) (g := T.gc) (tg := .v 5) (elt := .tup (.cons (.var 5) (.cons (.frz (.call (c "_law_name") (.cons (.var 0) .nil))) (.cons (.frz (.call (c "_law_question") (.cons (.var 0) (.cons (.var 1) .nil)))) .nil))))
      (l := wipeL [some (.obj p), some (.int d), some (.int 4), some q0.toD, some (.lf (xs.map D.str)), none] [5]) (R := fun x y s s' => ∃ (n z : Str) (q : Q), x = D.str n ∧ y = D.tup [.str n, .str z, q.toD] ∧ NameOk z ∧ RQ d p q s s') (src := none) (ds := xs.map D.str) (acc := []) hp3 (by rw [List.length_map, sizeLine_eq]; simp; omega) (fun _ _ => trivial) (fun x hx s5 hp5 _ => by
        obtain ⟨y, hy, rfl⟩ := List.mem_map.mp hx
        obtain ⟨z, s6, z1, p6, e6⟩ := t_name E (m := n) (by omega) hp5
        obtain ⟨q, s7, q1, p7, b7, e7⟩ := ih n p s6 (by omega) (p6.at_ hp5)
        rw [p6.third] at b7
        refine ⟨_, s7, p6.a.trans p7, ⟨y, z, q, rfl, rfl, z1, q1, b7⟩, fun K1 => ?_⟩
        simp -implicitDefEqProofs [wipeL, callK_of e6, callK_of e7])
    obtain ⟨zs, qs, r1, r2, r3, r4, rfl, r5, r6⟩ := rows3_of al
    have t3 : third s3 p = third s1 p := by rw [p3.third, p2.third]
    rw [t3] at r5 r6
    have hzl : zs.length = xs.length := by rw [← r1, List.length_map]
    have hzn : ∀ z ∈ zs, NameOk z.1 ∧ NameOk z.2 := fun z hz => ⟨x2 z.1 (by rw [← r1]; exact List.mem_map.mpr ⟨z, hz, rfl⟩), r2 z hz⟩
    have hq : gq (d + 2) (.node (.mat zs) (q0 :: qs)) := ⟨⟨by show qs.length + 1 = _; omega, by show qs.length + 1 ≤ 4; omega, fun z hz => ⟨(hzn z hz).1.lv, (hzn z hz).2.lv⟩⟩, ⟨fun e => by
        have h := x4 (by omega)
        rw [e] at r1
        exact h r1.symm, by rw [r1]; exact x1, hzn⟩, fun z hz => by
        rcases List.mem_cons.mp hz with e | hz
        · rw [e]; exact q1
        · exact r4 z hz⟩
    have hf := (p4.at_ hp3).fin (r := .d (Q.node (.mat zs) (q0 :: qs)).toD) (n := s.length) (by rw [p4.len, p3.len, p2.len, p1.len]) (node_lt hq)
    refine ⟨_, s4, hq, ((p1.trans p2.a).trans p3.a).trans p4, ⟨by rw [r5, b1.1]; show _ = _ - ((q0.sz + szs qs : Nat) : Int); omega, .cons b1.2 (by rw [← b1.1]; exact r6), by show qs.length + 1 ≤ 4; omega⟩, ?_⟩
    rw [toD_eq] at hf ⊢
    simp only [mkD, List.map_cons, List.headD_cons, List.tail_cons] at hf ⊢
    rw [call_at E.rowed rfl]
    simp -implicitDefEqProofs [f_rowed, b_rowed, callK_of e1, callK_of e2, callK_of e3, e4, hf]
theorem pln_at {i : Int} (h1 : 0 ≤ i) (h2 : i < 10) : ∃ w ∈ plnW, atI [D.str "one", .str "unlike", .str "not", .str "plus", .str "add", .str "times", .str "alike", .str "below", .str "both", .str "if"] i = some (.str w) ∧ atI [D.int 1, .int 1, .int 1, .int 2, .int 2, .int 2, .int 2, .int 2, .int 2, .int 3] i = some (.int (arity w)) := by
  obtain ⟨w, hw, e⟩ := at_mem (xs := plnW) h1 h2
  refine ⟨w, hw, ?_, ?_⟩
  · show atI (plnW.map D.str) i = _
    rw [atI_map, e]; rfl
  · have : [D.int 1, .int 1, .int 1, .int 2, .int 2, .int 2, .int 2, .int 2, .int 2, .int 3] = (plnW.map fun w => ((arity w : Nat) : Int)).map D.int := by
      have h : (plnW.map fun w => ((arity w : Nat) : Int)) = [1, 1, 1, 2, 2, 2, 2, 2, 2, 3] := by decide +kernel
      rw [h]; rfl
    rw [this, atI_map, atI_map, e]; rfl
theorem bnd_at {i : Int} (h1 : 0 ≤ i) (h2 : i < 3) : ∃ w ∈ bindW, atI [D.str "let", .str "for", .str "sum"] i = some (.str w) := by
  obtain ⟨w, hw, e⟩ := at_mem (xs := bindW) h1 h2
  refine ⟨w, hw, ?_⟩
  show atI (bindW.map D.str) i = _
  rw [atI_map, e]; rfl
theorem ar_le : ∀ w ∈ plnW, 1 ≤ arity w ∧ arity w ≤ 3 := by decide +kernel
/-- the first steps of a drawing -/
theorem q_head (E : EG T c g) {n p : Nat} {s : Sto} (hn : 1 ≤ n) (hp : PotAt 3 p s) : ∃ a b e : Int, s[p]? = some (.lst [.int a, .int b, .int e]) ∧ ∃ w s1, 0 ≤ w ∧ w < 24 ∧ Pa 3 p s s1 ∧ (∃ a' b' e' : Int, s1[p]? = some (.lst [.int a', .int b', .int e']) ∧ e' = e - 1) ∧ callN T n (c "_law_digit") [.obj p, .int 24] (s.set p (.lst [.int a, .int b, .int (e - 1)])) = .ok (.d (.int w)) s1 := by
  obtain ⟨is, hl3, hp'⟩ := hp.at_
  obtain ⟨a, b, e, rfl⟩ := three_of hl3
  refine ⟨a, b, e, hp', ?_⟩
  have p0 : Pa 3 p s (s.set p (.lst [.int a, .int b, .int (e - 1)])) := ⟨[a, b, e - 1], rfl, rfl⟩
  have t0 : third (s.set p (.lst [.int a, .int b, .int (e - 1)])) p = e - 1 := third_set (a := a) (b := b) hp.lt
  obtain ⟨w, s1, w1, w2, p1, e1⟩ := t_digit E (m := n) (k := 24) hn (p0.at_ hp) (by decide) (by decide)
  obtain ⟨is, hl3, hp''⟩ := (p1.at_ (p0.at_ hp)).at_
  obtain ⟨a', b', e', rfl⟩ := three_of hl3
  exact ⟨w, s1, w1, w2, p0.trans p1.a, ⟨a', b', e', hp'', by
    have := p1.third
    rw [t0, third_at hp''] at this
    exact this⟩, e1⟩
theorem t_question (E : EG T c g) : ∀ d : Nat, d ≤ 1000 → PQ T c d := by
  intro d
  induction d with
  | zero =>
    intro _ m p s hm hp
    obtain ⟨n, rfl⟩ : ∃ n, m = n + 1 := ⟨m - 1, by omega⟩
    obtain ⟨a, b, e, h0, w, s1, w1, w2, p1, ⟨a', b', e', h1, ee⟩, e1⟩ := q_head E (n := n) (by omega) hp
    have hp1 := p1.at_ hp
    have t0 := third_at h0
    have t1 := third_at h1
    have l1 : 0 ≤ w.fmod 6 := Int.fmod_nonneg_of_pos _ (by decide)
    have l2 : w.fmod 6 < 6 := Int.fmod_lt_of_pos _ (by decide)
    obtain ⟨q, s2, q1, p2, e2⟩ := t_leaf E (m := n) (by omega) l1 l2 hp1
    have hf := (p2.at_ hp1).fin (r := .d q.toD) (n := s.length) (by rw [p2.len, p1.len]) (node_lt q1)
    have hz := leaf_sz q1
    refine ⟨q, s2, q1, p1.trans p2.a, ⟨by rw [p2.third, t1, t0, hz]; omega, by rw [hz]; unfold Bq; split <;> omega⟩, ?_⟩
    rw [call_at E.question rfl]
    simp -implicitDefEqProofs [f_question, b_question, h0, callK_of e1, callK_of e2, hf]
  | succ d ih =>
    intro hd m p s hm hp
    have ih := ih (by omega)
    obtain ⟨n, rfl⟩ : ∃ n, m = n + 1 := ⟨m - 1, by omega⟩
    obtain ⟨a, b, e, h0, w, s1, w1, w2, p1, ⟨a', b', e', h1, ee⟩, e1⟩ := q_head E (n := n) (by omega) hp
    have hp1 := p1.at_ hp
    have t0 := third_at h0
    have t1 := third_at h1
    have hd0 : ¬ ((d : Int) + 1 = 0) := by omega
    have hsub : (d : Int) + 1 - 1 = d := by omega
    by_cases hlf : e' < 0 ∨ w < 6
    · have l1 : 0 ≤ w.fmod 6 := Int.fmod_nonneg_of_pos _ (by decide)
      have l2 : w.fmod 6 < 6 := Int.fmod_lt_of_pos _ (by decide)
      obtain ⟨q, s2, q1, p2, e2⟩ := t_leaf E (m := n) (by omega) l1 l2 hp1
      have hf := (p2.at_ hp1).fin (r := .d q.toD) (n := s.length) (by rw [p2.len, p1.len]) (node_lt q1)
      have hz := leaf_sz q1
      refine ⟨q, s2, q1.mono (by omega), p1.trans p2.a, ⟨by rw [p2.third, t1, t0, hz]; omega, by rw [hz]; unfold Bq; split <;> omega⟩, ?_⟩
      rw [call_at E.question rfl]
      by_cases he : e' < 0
      · simp -implicitDefEqProofs [f_question, b_question, h0, callK_of e1, hd0, h1, he, callK_of e2, hf]
      · have hw6 : w < 6 := by omega
        simp -implicitDefEqProofs [f_question, b_question, h0, callK_of e1, hd0, h1, he, hw6, callK_of e2, hf]
    have he : ¬ e' < 0 := fun h => hlf (.inl h)
    have hw6 : ¬ w < 6 := fun h => hlf (.inr h)
    have bnd : ∀ qs : List Q, Ch d e' qs → qs.length ≤ 4 → ((szs qs + 1 : Nat) : Int) ≤ Bq (d + 1) e := fun qs h1 h2 => by
      have := h1.tot.2
      unfold Bq
      rw [if_neg (by omega)]
      omega
    by_cases h11 : w < 11
    · obtain ⟨q, s2, q1, p2, b2, e2⟩ := t_rowed E (m := n) (w := w - 6) ih (by omega) (by omega) (by omega) hp1
      have hf := (p2.at_ hp1).fin (r := .d q.toD) (n := s.length) (by rw [p2.len, p1.len]) (node_lt q1)
      rw [t1] at b2
      refine ⟨q, s2, q1, p1.trans p2, ⟨by rw [b2.1, t0, sz_node]; omega, by rw [t0, sz_node]; exact bnd _ b2.2.1 b2.2.2⟩, ?_⟩
      rw [call_at E.question rfl]
      simp -implicitDefEqProofs [f_question, b_question, h0, callK_of e1, hd0, h1, he, hw6, h11, hsub, callK_of e2, hf]
    by_cases h14 : w < 14
    · obtain ⟨wd, hwd, ea⟩ := bnd_at (i := w - 11) (by omega) (by omega)
      obtain ⟨x, s2, x1, p2, e2⟩ := t_name E (m := n) (by omega) hp1
      have hp2 := p2.at_ hp1
      obtain ⟨q1, s3, hq1, p3, b3, e3⟩ := ih n p s2 (by omega) hp2
      have hp3 := p3.at_ hp2
      obtain ⟨q2, s4, hq2, p4, b4, e4⟩ := ih n p s3 (by omega) hp3
      have t2 : third s2 p = e' := by rw [p2.third, t1]
      rw [t2] at b3
      rw [b3.1] at b4
      have hch : Ch d e' [q1, q2] := .cons b3.2 (.cons b4.2 .nil)
      have hsz : (Q.node (.bnd wd x) [q1, q2]).sz = szs [q1, q2] + 1 := sz_node (Q.node (.bnd wd x) [q1, q2])
      have hs2 : szs [q1, q2] = q1.sz + (q2.sz + 0) := rfl
      have hq : gq (d + 2) (.node (.bnd wd x) [q1, q2]) := ⟨⟨rfl, hwd, x1.lv⟩, x1, fun z hz => by
        rcases List.mem_cons.mp hz with e | hz
        · rw [e]; exact hq1
        · rw [List.mem_singleton.mp hz]; exact hq2⟩
      have hf := (p4.at_ hp3).fin (r := .d (Q.node (.bnd wd x) [q1, q2]).toD) (n := s.length) (by rw [p4.len, p3.len, p2.len, p1.len]) (node_lt hq)
      refine ⟨_, s4, hq, ((p1.trans p2.a).trans p3).trans p4, ⟨by rw [b4.1, t0, hsz, hs2]; omega, by rw [t0, hsz]; exact bnd _ hch (by show (2 : Nat) ≤ 4; decide)⟩, ?_⟩
      rw [toD_eq] at hf ⊢
      simp only [mkD, List.map] at hf ⊢
      rw [call_at E.question rfl]
      simp -implicitDefEqProofs [f_question, b_question, h0, callK_of e1, hd0, h1, he, hw6, h11, h14, ea, callK_of e2, hsub, callK_of e3, callK_of e4, hf]
    · obtain ⟨wd, hwd, ea, eb⟩ := pln_at (i := w - 14) (by omega) (by omega)
      have har := ar_le wd hwd
      obtain ⟨ys, s2, p2, al, e2⟩ := cp_potA (β := RD) (cf := callN T n) (g := T.gc) (tg := .v 5) (elt := .frz (.call (c "_law_question") (.cons (.var 0) (.cons (.bin .sub (.var 1) (.int 1)) .nil))))
        (l := wipeL [some (.obj p), some (.int (d + 1)), some (.int w), some (.str wd), some (.int (arity wd)), none] [5]) (R := fun _ y s s' => ∃ q : Q, y = q.toD ∧ RQ d p q s s') (src := none) (ds := upTo 0 (arity wd)) (acc := []) hp1 (by rw [up_len, sizeLine_eq]; simp; omega) (fun _ _ => trivial) (fun x hx s4 hp4 _ => by
          obtain ⟨q, s5, q1, p5, b5, e5⟩ := ih n p s4 (by omega) hp4
          refine ⟨_, s5, p5, ⟨q, rfl, q1, b5⟩, fun K1 => ?_⟩
          simp -implicitDefEqProofs [wipeL, hsub, callK_of e5])
      obtain ⟨qs, r1, r2, rfl, r5, r6⟩ := qs_of al
      rw [up_len] at r1
      rw [t1] at r5 r6
      have hsz : (Q.node (.pln wd) qs).sz = szs qs + 1 := sz_node (Q.node (.pln wd) qs)
      have hq : gq (d + 2) (.node (.pln wd) qs) := ⟨⟨by show 1 ≤ qs.length; omega, by show qs.length ≤ 3; omega, hwd⟩, r1, r2⟩
      have hf := (p2.at_ hp1).fin (r := .d (Q.node (.pln wd) qs).toD) (n := s.length) (by rw [p2.len, p1.len]) (node_lt hq)
      refine ⟨_, s2, hq, p1.trans p2, ⟨by rw [r5, t0, hsz]; omega, by rw [t0, hsz]; exact bnd _ r6 (by omega)⟩, ?_⟩
      rw [toD_eq] at hf ⊢
      simp only [mkD] at hf ⊢
      have sm : small62 (arity wd : Int) := small_of (by omega) (by omega)
      have hbt := bin_tup (s := s2) (xs := [D.str wd]) (ys := qs.map Q.toD) (by rw [sizeLine_eq, List.length_map]; simp; omega)
      rw [call_at E.question rfl]
      simp -implicitDefEqProofs [f_question, b_question, h0, callK_of e1, hd0, h1, he, hw6, h11, h14, ea, eb, range_ok sm, e2, hbt, hf]
end Nv.S2

set_option Elab.async false
set_option maxRecDepth 100000
set_option autoImplicit false
set_option linter.all false
set_option maxHeartbeats 4000000
/-! S2i: pots, cells; what the laws' ends want -/
namespace Nv
open PySem PySem.Spec PyProof.Rows L2
/-- a comprehension with a test, over things that stand for others -/
theorem cp_ifm {α β : Type} {cf : Nat → List D → Sto → Res RD} {g : Nat → Option D} {l : Loc} {s : Sto} {tg : Tg} {src : Option (Nat × List D)} {c elt : Ex} {F f : α → D} {p : α → Bool} (hs : srcOk src s) : ∀ {xs : List α} {acc : List D}, acc.length + xs.length ≤ sizeLine →
    (∀ x ∈ xs, ∀ (K1 : D → Sto → Res β) (K2 : Sto → Res β), btK (bindT tg (F x) l) (fun l1 => evb cf g c l1 s fun t s1 => if t = true then evv cf g elt l1 s1 K1 else K2 s1) = if p x = true then K1 (f x) s else K2 s) →
      ∀ k : List D → Sto → Res β, cpK tg src (den cf g c).b (den cf g elt).v l (xs.map F) acc s k = k (acc ++ (xs.filter p).map f) s
  | [], acc, _, _, k => by rw [List.map_nil, cp_nil hs, List.filter_nil, List.map_nil, List.append_nil]
  | x :: xs, acc, hl, h, k => by
    rw [List.length_cons] at hl
    rw [List.map_cons, cp_cons hs (by omega) (by rw [h x (.head _) (fun _ _ => .no) (fun _ => .no)]; split <;> rfl), h x (.head _)]
    cases hp : p x with
    | false =>
      rw [if_neg Bool.false_ne_true, cp_ifm hs (by omega) fun z hz => h z (.tail _ hz), List.filter_cons_of_neg (by simp [hp])]
    | true =>
      rw [if_pos rfl, cp_ifm hs (by rw [List.length_append, List.length_singleton]; omega) fun z hz => h z (.tail _ hz), List.filter_cons_of_pos hp, List.map_cons, List.append_assoc]
      rfl
/-- a loop that changes nothing of the store, over things of a sort -/
theorem for_pure {β : Type} {cf : Nat → List D → Sto → Res RD} {g : Nat → Option D} {s : Sto} {tg : Tg} {u : Sm} {P : D → Prop} {I : Loc → Prop} {ds : List D} {l : Loc} (hl : I l) (hds : ∀ d ∈ ds, P d)
    (h : ∀ x l, P x → I l → ∃ l2, I l2 ∧ ∀ F : Fl → Loc → Sto → Res β, btK (bindT tg x l) (fun l1 => sk cf g u l1 s F) = F .nx l2 s) : ∃ l2, I l2 ∧ ∀ j : Fl → Loc → Sto → Res β, forK tg none (sden cf g u) ds l s j = j .nx l2 s := by
  obtain ⟨l2, s2, ⟨h1, rfl, _⟩, e⟩ := for_go (β := β) (cf := cf) (g := g) (tg := tg) (src := none) (u := u) (I := fun rest l s' => I l ∧ s' = s ∧ ∀ d ∈ rest, P d) (ds := ds) (l := l) (s := s) ⟨hl, rfl, hds⟩ (fun _ _ _ _ => trivial) (by
    rintro x rest l s' ⟨h1, rfl, h2⟩
    obtain ⟨l2, h3, e⟩ := h x l (h2 x (.head _)) h1
    exact ⟨l2, s', ⟨h3, rfl, fun d hd => h2 d (.tail _ hd)⟩, e⟩)
  exact ⟨l2, h1, e⟩
theorem eq_nils {s : Sto} : eqR s (.l []) (.l []) = some true := rfl
theorem at_memN {α : Type} {xs : List α} {i : Int} (h1 : -(xs.length : Int) ≤ i) (h2 : i < xs.length) : ∃ x ∈ xs, atI xs i = some x := by
  by_cases h : 0 ≤ i
  · exact at_mem h h2
  · have hk : (i + xs.length).toNat < xs.length := by omega
    refine ⟨xs[(i + xs.length).toNat], List.getElem_mem hk, ?_⟩
    unfold atI ixN
    rw [if_neg h, if_pos h1]
    show xs[(i + xs.length).toNat]? = _
    exact List.getElem?_eq_getElem hk
theorem numbered_mem : ∀ {j : Nat} {ys : List D} {x : D}, x ∈ numbered j ys → ∃ i y, y ∈ ys ∧ i < ys.length ∧ x = .tup [.int ((j + i : Nat) : Int), y]
  | j, [], x, h => by unfold numbered at h; cases h
  | j, y :: ys, x, h => by
    unfold numbered at h
    rcases List.mem_cons.mp h with e | h
    · exact ⟨0, y, .head _, by simp, e⟩
    · obtain ⟨i, z, h1, h2, h3⟩ := numbered_mem h
      exact ⟨i + 1, z, .tail _ h1, by simp; omega, by rw [h3]; congr 3; omega⟩
/-- what lies below n stays -/
theorem Pa.take {k p n : Nat} {s s' : Sto} (h : Pa k p s s') (hn : n ≤ p) : s'.take n = s.take n := by
  obtain ⟨is, _, rfl⟩ := h
  rw [List.take_set_of_le hn]
theorem Pc.take {k p n : Nat} {s s' : Sto} (h : Pc k p s s') (hn : n ≤ p) : s'.take n = s.take n := h.a.take hn
theorem fin_keep {s s1 : Sto} {d : RD} (h : Clo s) (e : s1.take s.length = s) (q : d.lt s.length = true) : fin s.length d s1 = .ok d s := fin_any e h q
theorem steps_in : ∀ b : Fin 17, ((stepsOf 0 2 (Builtin.Range.rangeSize 0 b.val 2).toNat).all fun d => match d with | .int i => decide (0 ≤ i ∧ i < b.val) | _ => false) = true := by decide +kernel
theorem steps_int {b : Nat} (h : b ≤ 16) {d : D} (hd : d ∈ stepsOf 0 2 (Builtin.Range.rangeSize 0 b 2).toNat) : ∃ i : Nat, d = .int i ∧ i < b := by
  have := List.all_eq_true.mp (steps_in ⟨b, by omega⟩) d hd
  cases d with
  | int i =>
    obtain ⟨h1, h2⟩ : 0 ≤ i ∧ i < (b : Int) := of_decide_eq_true this
    obtain ⟨n, rfl⟩ := Int.eq_ofNat_of_zero_le h1
    exact ⟨n, rfl, by omega⟩
  | _ => cases this
theorem rng_ok : ∀ b : Fin 17, Builtin.Range.small 0 b.val 2 = true := by decide +kernel
theorem rng2 {b : Nat} (h : b ≤ 16) : rng3R (.d (.int 0)) (.d (.int b)) (.d (.int 2)) = some ⟨stepsOf 0 2 (Builtin.Range.rangeSize 0 b 2).toNat, none⟩ := by
  unfold rng3R
  simp only
  rw [if_pos ⟨by decide, by decide, rng_ok ⟨b, by omega⟩⟩]
end Nv
namespace Nv.S2
open PySem PySem.Spec PyProof.Rows L2
variable {T : Tab} {c g : Str → Nat}
theorem t_pot3 (E : EG T c g) {m : Nat} {s : Sto} {a b : Int} (hm : 1 ≤ m) (hs : Clo s) : ∃ x y : Int, callN T m (c "_law_pot") [.int a, .int b] s = .ok (.l ([x, y, b].map D.int)) s := by
  obtain ⟨n, rfl⟩ : ∃ n, m = n + 1 := ⟨m - 1, by omega⟩
  have hpw : ∀ s, binR .pow s (.d (.int 10)) (.d (.int 18)) = some (.d (.int 1000000000000000000)) := fun s => by
    rw [bin_pow ⟨by decide, by decide, by decide⟩]; rfl
  have c1 : CMul a (if 1000000000000000000 ≤ a then 1 else 0) := by split <;> exact mul_const (by decide) (by decide)
  refine ⟨a * (if 1000000000000000000 ≤ a then 1 else 0), a.fmod 2147483629 + 1, ?_⟩
  have hf := fin_ls (cs := [.int (a * (if 1000000000000000000 ≤ a then 1 else 0)), .int (a.fmod 2147483629 + 1), .int b]) hs rfl
  rw [call_at E.pot rfl]
  simp only [List.map]
  generalize hx : (if 1000000000000000000 ≤ a then (1 : Int) else 0) = x at c1 hf
  simp -implicitDefEqProofs [f_pot, b_pot, hpw, hx, bin_mul c1, hf]
theorem t_pot (E : EG T c g) {m : Nat} {s : Sto} {a b : Int} (hm : 1 ≤ m) (hs : Clo s) : ∃ is : List Int, is.length = 3 ∧ callN T m (c "_law_pot") [.int a, .int b] s = .ok (.l (is.map D.int)) s := by
  obtain ⟨n, rfl⟩ : ∃ n, m = n + 1 := ⟨m - 1, by omega⟩
  have hpw : ∀ s, binR .pow s (.d (.int 10)) (.d (.int 18)) = some (.d (.int 1000000000000000000)) := fun s => by
    rw [bin_pow ⟨by decide, by decide, by decide⟩]; rfl
  have c1 : CMul a (if 1000000000000000000 ≤ a then 1 else 0) := by split <;> exact mul_const (by decide) (by decide)
  refine ⟨[a * (if 1000000000000000000 ≤ a then 1 else 0), a.fmod 2147483629 + 1, b], rfl, ?_⟩
  have hf := fin_ls (cs := [.int (a * (if 1000000000000000000 ≤ a then 1 else 0)), .int (a.fmod 2147483629 + 1), .int b]) hs rfl
  rw [call_at E.pot rfl]
  simp only [List.map]
  generalize hx : (if 1000000000000000000 ≤ a then (1 : Int) else 0) = x at c1 hf
  simp -implicitDefEqProofs [f_pot, b_pot, hpw, hx, bin_mul c1, hf]
theorem t_cellF {F : Fn} (h : T.fns[c "_law_cell"]? = some F) (e1 : F.ps.length = 2) (e2 : F.ns.length = 2) (e3 : F.body = b_cell c g) {m : Nat} {s : Sto} {ns : List Int} {k : Nat} (hm : 1 ≤ m) (hs : Clo s) (hz : ns.length ≤ 1000) : ∃ i : Int, callN T m (c "_law_cell") [.lf (ns.map D.int), .int k] s = .ok (.d (.int i)) s := by
  obtain ⟨n, rfl⟩ : ∃ n, m = n + 1 := ⟨m - 1, by omega⟩
  have hcut : cutD (ns.map D.int) (some (k : Int)) (some ((k : Int) + 1)) = ((ns.drop k).take 1).map D.int := by
    have := cut_mid (xs := ns.map D.int) (i := k) (j := k + 1)
    rw [show ((k + 1 : Nat) : Int) = (k : Int) + 1 by omega] at this
    rw [this, List.map_take, List.map_drop]
    congr 1
    omega
  have hb := bin_ll (s := s) (xs := ((ns.drop k).take 1).map D.int) (ys := [.int 0]) (by rw [List.length_map, sizeLine_eq]; have := List.length_take_le 1 (ns.drop k); simp; omega)
  obtain ⟨i, hi⟩ : ∃ i : Int, atI (((ns.drop k).take 1).map D.int ++ [D.int 0]) 0 = some (.int i) := by
    cases hd : (ns.drop k).take 1 with
    | nil => exact ⟨0, by simp⟩
    | cons x r => exact ⟨x, by simp⟩
  have hf := fin_d (d := .int i) hs rfl
  refine ⟨i, ?_⟩
  generalize ((ns.drop k).take 1).map D.int = xs at hcut hb hi
  rw [call_at h (show ([D.lf (ns.map D.int), D.int k] : List D).length = F.ps.length from e1.symm), e2, e3]
  simp -implicitDefEqProofs [b_cell, hcut, hb, hi, hf]
theorem t_cell (h : T.fns[c "_law_cell"]? = some (f_cell c g)) {m : Nat} {s : Sto} {ns : List Int} {k : Nat} (hm : 1 ≤ m) (hs : Clo s) (hz : ns.length ≤ 1000) : ∃ i : Int, callN T m (c "_law_cell") [.lf (ns.map D.int), .int k] s = .ok (.d (.int i)) s := t_cellF (g := g) h rfl rfl rfl hm hs hz
end Nv.S2

set_option Elab.async false
set_option maxRecDepth 100000
set_option autoImplicit false
set_option linter.all false
set_option maxHeartbeats 4000000
/-! S2j: lists that are alike; places that aren't there -/
namespace Nv
open PySem PySem.Spec PyProof.Rows L2
theorem mapM_of {α β : Type} {f : α → Option β} {h : α → β} : ∀ {xs : List α}, (∀ x ∈ xs, f x = some (h x)) → xs.mapM f = some (xs.map h)
  | [], _ => rfl
  | x :: r, q => by
    rw [List.mapM_cons, q x (.head _), mapM_of fun y hy => q y (.tail _ hy)]; rfl
theorem pyWs_mapM {g : Nat → Option PyData} : ∀ xs : List D, pyWs g xs = xs.mapM (pyW g)
  | [] => rfl
  | x :: r => by
    rw [List.mapM_cons]
    show ((pyW g x).bind fun p => (pyWs g r).map (p :: ·)) = _
    rw [pyWs_mapM r]
    cases pyW g x with
    | none => rfl
    | some p => show (r.mapM (pyW g)).map _ = (r.mapM (pyW g)).bind _; cases r.mapM (pyW g) <;> rfl
/-- a list, fresh, kept or in the store -/
def LstAs (s : Sto) (a : RD) (xs : List D) : Prop := a = .l xs ∨ a = .d (.lf xs) ∨ ∃ k, a = .d (.obj k) ∧ s[k]? = some (.lst xs)
theorem las_l {s : Sto} {xs : List D} : LstAs s (.l xs) xs := .inl rfl
theorem las_lf {s : Sto} {xs : List D} : LstAs s (.d (.lf xs)) xs := .inr (.inl rfl)
theorem las_obj {s : Sto} {k : Nat} {xs : List D} (h : s[k]? = some (.lst xs)) : LstAs s (.d (.obj k)) xs := .inr (.inr ⟨k, rfl, h⟩)
theorem LstAs.py {s : Sto} {a : RD} {xs : List D} {ps : List PyData} (h : LstAs s a xs) (q : ∀ g, pyWs g xs = some ps) : pyR s a = some (.list ps) := by
  rcases h with rfl | rfl | ⟨k, rfl, h⟩
  · show (xs.mapM (pyN s 2)).map _ = _
    have : xs.mapM (pyN s 2) = some ps := by
      rw [← q (fun i => match s[i]? with | some (.lst xs) => (xs.mapM (pyN s 1)).map .list | _ => none), pyWs_mapM]
      rfl
    rw [this]; rfl
  · show pyW _ (.lf xs) = _
    unfold pyW
    rw [q]; rfl
  · show pyN s 3 (.obj k) = _
    unfold pyN
    unfold pyW
    simp only
    rw [h]
    show (xs.mapM (pyN s 2)).map _ = _
    have : xs.mapM (pyN s 2) = some ps := by
      rw [← q (fun i => match s[i]? with | some (.lst xs) => (xs.mapM (pyN s 1)).map .list | _ => none), pyWs_mapM]
      rfl
    rw [this]; rfl
theorem eq_lists {s : Sto} {a b : RD} {xs : List D} (ha : LstAs s a xs) (hb : LstAs s b xs) (h : ∀ x ∈ xs, Sh 63 x) : eqR s a b = some true := by
  obtain ⟨ps, g1, g2, g3⟩ := sh_all h
  unfold eqR
  rw [ha.py g1, hb.py g1]
  have c1 : PyData.canLay0 (.list ps) = true := by unfold PyData.canLay0; exact g2
  have c2 : PyData.depth (.list ps) ≤ 64 := by unfold PyData.depth; omega
  show (if _ ∧ _ then some _ else _) = _
  rw [if_pos ⟨shaped_of c1 c2, shaped_of c1 c2⟩, SeqAt.eqv_refl _ c1]
theorem pl_sh {p : List Nat} : Sh 63 (S2.plD p) := sh_tup (n := 62) fun d hd => by
  obtain ⟨i, _, rfl⟩ := List.mem_map.mp hd
  exact sh_int
theorem len_obj {s : Sto} {k : Nat} {xs : List D} (h : s[k]? = some (.lst xs)) : b1R .len s (.d (.obj k)) = some (.d (.int xs.length)) := by
  show (match dctAt s (.d (.obj k)) with | some kvs => _ | none => _) = _
  rw [dct_obj, h]
  show (asQ s (.d (.obj k))).map _ = _
  rw [asQ_obj, lstAt_of h]; rfl
/-- a place of whole numbers, one of them no place -/
def plI (p : List Nat) (r : List Int) : D := .tup (p.map (fun i : Nat => D.int i) ++ r.map D.int)
theorem plI_lt {n : Nat} {p : List Nat} {r : List Int} : (plI p r).lt n = true := (sh_tup (n := 0) fun d hd => by
  rcases List.mem_append.mp hd with h | h
  · obtain ⟨i, _, rfl⟩ := List.mem_map.mp h; exact sh_int
  · obtain ⟨i, _, rfl⟩ := List.mem_map.mp h; exact sh_int).lt
theorem ne_nil {s : Sto} {p : List Nat} {i : Int} {r : List Int} : eqR s (.d (plI p (i :: r))) (.d (.tup [])) = some false := by
  obtain ⟨x, xs, e⟩ : ∃ x xs, p.map (fun i : Nat => D.int i) ++ (i :: r).map D.int = x :: xs := by cases p <;> exact ⟨_, _, rfl⟩
  have hs : ∀ d ∈ x :: xs, Sh 62 d := fun d hd => by
    rw [← e] at hd
    rcases List.mem_append.mp hd with h | h
    · obtain ⟨i, _, rfl⟩ := List.mem_map.mp h; exact sh_int
    · obtain ⟨i, _, rfl⟩ := List.mem_map.mp h; exact sh_int
  obtain ⟨y, h1, h2, h3⟩ := (sh_tup hs).py
  obtain ⟨ps, g1, g2, g3⟩ := sh_all hs
  have hp : plI p (i :: r) = .tup (x :: xs) := by unfold plI; rw [e]
  have e1 : pyR s (.d (.tup (x :: xs))) = some (.tuple ps) := by show pyW _ (.tup (x :: xs)) = _; unfold pyW; rw [g1]; rfl
  rw [hp]
  unfold eqR
  rw [e1]
  show (if _ ∧ _ then some _ else _) = _
  have c1 : PyData.canLay0 (.tuple ps) = true := by unfold PyData.canLay0; exact g2
  have c2 : PyData.depth (.tuple ps) ≤ 64 := by unfold PyData.depth; omega
  have c3 : SeqAt.shaped (.tuple []) = true := by decide
  rw [if_pos ⟨shaped_of c1 c2, c3⟩]
  cases ps with
  | nil =>
    have := g1 (fun _ => none)
    unfold pyWs at this
    cases h : pyW (fun _ => none) x with
    | none => rw [h] at this; cases this
    | some q =>
      rw [h] at this
      cases h2 : pyWs (fun _ => none) xs with
      | none => simp [h2] at this
      | some w => simp [h2] at this
  | cons q w => rfl
end Nv
namespace Nv.S2
open PySem PySem.Spec PyProof.Rows L2
section
variable {T : Tab} {c g : Str → Nat}
theorem t_part_of_no (E : EX T c g) {m n : Nat} {i : Int} {s : Sto} {q : Q} (hm : 2 ≤ m) (hs : Clo s) (h : Q.ok n q) (hi : i < 0 ∨ (q.kids.length : Int) ≤ i) : callN T m (c "part_of") [q.toD, .int i] s = .ex (.str "NoPlace") s := by
  obtain ⟨m, rfl⟩ : ∃ k, m = k + 1 := ⟨m - 1, by omega⟩
  have e1 := t_partsQ E.toEP (m := m) (by omega) hs h
  rw [call_at E.part_of rfl]
  by_cases c1 : i < 0
  · simp -implicitDefEqProofs [f_p_part_of, b_p_part_of, callK_of e1, c1]
  · have c2 : (q.kids.length : Int) ≤ i := by omega
    simp -implicitDefEqProofs [f_p_part_of, b_p_part_of, callK_of e1, c1, c2]
theorem part_at_no (E : EW T c g) {m n : Nat} {s : Sto} (hm : 2 ≤ m) (hs : Clo s) {a0 a1 : Option D} {i : Int} {r : List Int} : ∀ {p : List Nat} {q d : Q} {o : Option D}, Q.ok n q → getAt q p = some d → (i < 0 ∨ (d.kids.length : Int) ≤ i) → ∀ j : Fl → Loc → Sto → Res RD,
    forK (.v 3) none (sden (callN T m) T.gc (.cons (.set (.v 2) (.frz (.call (c "part_of") (.cons (.var 2) (.cons (.var 3) .nil))))) .nil)) (p.map (fun i : Nat => D.int i) ++ (i :: r).map D.int) [a0, a1, some q.toD, o] s j = .ex (.str "NoPlace") s
  | [], q, d, o, h, e, hi, j => by
    cases e
    rw [List.map_nil, List.nil_append, List.map_cons, for_cons (src := none) (s := s) trivial]
    simp -implicitDefEqProofs [callK_ex (t_part_of_no E.toEX hm hs h hi)]
  | k :: p, q, d, o, h, e, hi, j => by
    obtain ⟨x, e1, e2⟩ := getAt_cons e
    have hx : Q.ok n x := ok_get (p := [k]) h (by show (q.kids[k]?).bind _ = _; rw [e1]; rfl)
    have e3 := part_at_no (a0 := a0) (a1 := a1) (o := some (.int k)) (r := r) E hm hs hx e2 hi
    rw [List.map_cons, List.cons_append, for_cons (src := none) (s := s) trivial]
    simp only [List.map_cons] at e3
    simp -implicitDefEqProofs [callK_of (t_part_of E.toEX hm hs h e1), e3]
theorem t_part_at_no (E : EW T c g) {m n : Nat} {s : Sto} {q d : Q} {p : List Nat} {i : Int} {r : List Int} (hm : 3 ≤ m) (hs : Clo s) (h : Q.ok n q) (e : getAt q p = some d) (hi : i < 0 ∨ (d.kids.length : Int) ≤ i) : callN T m (c "part_at") [q.toD, plI p (i :: r)] s = .ex (.str "NoPlace") s := by
  obtain ⟨m, rfl⟩ : ∃ k, m = k + 1 := ⟨m - 1, by omega⟩
  have e1 := part_at_no E (m := m) (r := r) (by omega) hs (a0 := some q.toD) (a1 := some (plI p (i :: r))) (o := none) h e hi
  rw [call_at E.part_at rfl]
  unfold plI at *
  generalize p.map (fun i : Nat => D.int i) ++ (i :: r).map D.int = w at *
  simp -implicitDefEqProofs [f_p_part_at, b_p_part_at, e1]
theorem t_with_part_no (E : EX T c g) {o : D} {i : Int} {r : List Int} : ∀ {p : List Nat} {q d : Q} {n m : Nat} {s : Sto}, p.length + 3 ≤ m → Clo s → Q.ok n q → getAt q p = some d → (i < 0 ∨ (d.kids.length : Int) ≤ i) → ∃ w, Clo (s ++ w) ∧ callN T m (c "with_part") [q.toD, plI p (i :: r), o] s = .ex (.str "NoPlace") (s ++ w)
  | [], q, d, n, m, s, hm, hs, hq, e, hi => by
    obtain ⟨m, rfl⟩ : ∃ k, m = k + 1 := ⟨m - 1, by omega⟩
    cases e
    obtain ⟨n', rfl⟩ : ∃ k, n = k + 1 := by cases n with
      | zero => exact hq.elim
      | succ k => exact ⟨k, rfl⟩
    have hks := oks_lt (m := s.length + 1) hq.2
    have hs1 : Clo (s ++ [.lst (q.kids.map Q.toD)]) := hs.push hks
    have h0 := ne_nil (s := s) (p := []) (i := i) (r := r)
    have h1 := t_partsQ E.toEP (m := m) (by omega) hs hq
    have h2 := t_part_of_no E (m := m) (by simp at hm; omega) hs1 hq hi
    refine ⟨[.lst (q.kids.map Q.toD)], hs1, ?_⟩
    have hcut : plI [] (i :: r) = .tup (.int i :: r.map D.int) := rfl
    rw [hcut] at h0
    rw [call_at E.wpart rfl]
    simp -implicitDefEqProofs [f_p_with_part, b_p_with_part, hcut, h0, callK_of h1, callK_ex h2]
  | k :: p, q, d, n, m, s, hm, hs, hq, e, hi => by
    obtain ⟨m, rfl⟩ : ∃ k, m = k + 1 := ⟨m - 1, by omega⟩
    rw [List.length_cons] at hm
    obtain ⟨x, e1, e2⟩ := getAt_cons e
    have hx : Q.ok n x := ok_get (p := [k]) hq (by show (q.kids[k]?).bind _ = _; rw [e1]; rfl)
    obtain ⟨n', rfl⟩ : ∃ k, n = k + 1 := by cases n with
      | zero => exact hq.elim
      | succ k => exact ⟨k, rfl⟩
    have hks := oks_lt (m := s.length + 1) hq.2
    have hs1 : Clo (s ++ [.lst (q.kids.map Q.toD)]) := hs.push hks
    have h0 := ne_nil (s := s) (p := k :: p) (i := i) (r := r)
    have h1 := t_partsQ E.toEP (m := m) (by omega) hs hq
    have h2 := t_part_of E (m := m) (by omega) hs1 hq e1
    obtain ⟨w, hw, h3⟩ := t_with_part_no E (o := o) (r := r) (p := p) (m := m) (by omega) hs1 hx e2 hi
    refine ⟨.lst (q.kids.map Q.toD) :: w, by rw [List.append_assoc] at hw; exact hw, ?_⟩
    have hcut : plI (k :: p) (i :: r) = .tup (.int k :: (p.map (fun i : Nat => D.int i) ++ (i :: r).map D.int)) := rfl
    have hcp : D.tup (p.map (fun i : Nat => D.int i) ++ (i :: r).map D.int) = plI p (i :: r) := rfl
    rw [List.append_assoc] at h3
    rw [hcut] at h0
    rw [call_at E.wpart rfl, hcut]
    generalize p.map (fun i : Nat => D.int i) ++ (i :: r).map D.int = z at *
    rw [← hcp] at h3
    simp -implicitDefEqProofs [f_p_with_part, b_p_with_part, h0, callK_of h1, callK_of h2, callK_ex h3]
end
end Nv.S2

set_option Elab.async false
set_option maxRecDepth 100000
set_option autoImplicit false
set_option linter.all false
set_option maxHeartbeats 1000000
/-! NvF: free names. No program here. -/
namespace Nv
open PySem PySem.Spec PyProof.Rows L2
def leafN (w : Str) : D → List Str
  | .str x => if w = "name" then [x] else []
  | _ => []
def hdN : Hd → List Str
  | .leaf w d => leafN w d
  | _ => []
/-- the name that a head binds in its i-th part -/
def bndAt : Hd → Nat → Option Str
  | .bnd _ x, i => if i = 1 then some x else none
  | .mat ns, i => if i = 0 then none else (ns[i - 1]?).map (·.2)
  | _, _ => none
mutual
def fr : Q → List Str
  | .node h cs => hdN h ++ frs h 0 cs
def frs (h : Hd) : Nat → List Q → List Str
  | _, [] => []
  | i, c :: r => (fr c).filter (fun x => decide (bndAt h i ≠ some x)) ++ frs h (i + 1) r
end
mutual
def nl : Q → Nat
  | .node h cs => (hdN h).length + nls cs
def nls : List Q → Nat
  | [] => 0
  | c :: r => nl c + nls r
end
theorem fr_node (q : Q) : fr q = hdN q.hd ++ frs q.hd 0 q.kids := by cases q; rw [fr]; rfl
theorem nl_node (q : Q) : nl q = (hdN q.hd).length + nls q.kids := by cases q; rw [nl]; rfl
mutual
theorem fr_len : ∀ q : Q, (fr q).length ≤ nl q
  | .node h cs => by
    unfold fr nl
    rw [List.length_append]
    have := frs_len h 0 cs
    omega
theorem frs_len : ∀ (h : Hd) (i : Nat) (cs : List Q), (frs h i cs).length ≤ nls cs
  | _, _, [] => by unfold frs nls; exact Nat.le_refl _
  | h, i, c :: r => by
    unfold frs nls
    rw [List.length_append]
    have h1 := List.length_filter_le (fun x => decide (bndAt h i ≠ some x)) (fr c)
    have h2 := fr_len c
    have h3 := frs_len h (i + 1) r
    omega
end
theorem nls_mem : ∀ {cs : List Q} {c : Q}, c ∈ cs → nl c ≤ nls cs
  | d :: r, c, h => by
    unfold nls
    rcases List.mem_cons.mp h with e | h
    · rw [e]; omega
    · have := nls_mem h; omega
theorem nl_kid {q c : Q} (h : c ∈ q.kids) : nl c ≤ nl q := by
  rw [nl_node q]
  have := nls_mem h
  omega
theorem nls_set : ∀ {cs : List Q} {i : Nat} {c d : Q}, cs[i]? = some c → nls (cs.set i d) + nl c = nls cs + nl d
  | x :: r, 0, c, d, h => by
    rw [List.getElem?_cons_zero] at h
    cases h
    rw [List.set_cons_zero]
    unfold nls
    omega
  | x :: r, i + 1, c, d, h => by
    rw [List.getElem?_cons_succ] at h
    have := nls_set (d := d) h
    rw [List.set_cons_succ]
    unfold nls
    omega
theorem nl_put {o : Q} : ∀ {p : List Nat} {q c : Q}, getAt q p = some c → nl (put o q p) + nl c = nl q + nl o
  | [], q, c, h => by cases h; unfold put; omega
  | i :: p, q, c, h => by
    obtain ⟨d, e, g⟩ := getAt_cons h
    have h1 := nl_put (o := o) g
    rw [put_cons e]
    have h2 := nls_set (d := put o d p) e
    have h3 := nl_node q
    have h4 := nl_node (.node q.hd (q.kids.set i (put o d p)))
    have h5 : (Q.node q.hd (q.kids.set i (put o d p))).kids = q.kids.set i (put o d p) := rfl
    have h6 : (Q.node q.hd (q.kids.set i (put o d p))).hd = q.hd := rfl
    rw [h5, h6] at h4
    omega
theorem hd_len (h : Hd) : (hdN h).length ≤ 1 := by
  cases h with
  | leaf w d =>
    show (leafN w d).length ≤ 1
    unfold leafN
    split
    · split <;> simp
    · simp
  | _ => simp [hdN]
mutual
theorem nl_sz : ∀ {n : Nat} {q : Q}, gq n q → nl q ≤ q.sz
  | 0, _, h => h.elim
  | n + 1, q, ⟨f, _, k⟩ => by
    have h1 := nls_szs k
    have h2 := hd_len q.hd
    rw [nl_node, sz_node]
    omega
theorem nls_szs : ∀ {n : Nat} {cs : List Q}, (∀ c ∈ cs, gq n c) → nls cs ≤ szs cs
  | _, [], _ => by unfold nls szs; exact Nat.le_refl _
  | n, c :: r, h => by
    have h1 := nl_sz (h c (.head _))
    have h2 := nls_szs fun x hx => h x (.tail _ hx)
    show nl c + nls r ≤ c.sz + szs r
    omega
end
/-- one less than the parts, but for a question of one part -/
theorem nl_less {n k : Nat} {q : Q} (h : gq n q) (hz : q.sz ≤ k + 2) : nl q ≤ k + 1 := by
  cases n with
  | zero => exact h.elim
  | succ n =>
    obtain ⟨f, _, hk⟩ := h
    have h1 := nls_szs hk
    have h2 := hd_len q.hd
    have h3 := nl_node q
    have h4 := sz_node q
    cases hh : q.hd with
    | leaf w d =>
      rw [hh] at f
      have : q.kids = [] := List.eq_nil_of_length_eq_zero f.1
      rw [this] at h3
      have : nls [] = 0 := by unfold nls; rfl
      omega
    | _ =>
      have : (hdN q.hd).length = 0 := by rw [hh]; rfl
      omega
theorem gq_put {m : Nat} {o : Q} (ho : gq m o) : ∀ {n : Nat} {p : List Nat} {q c : Q}, gq n q → getAt q p = some c → gq (n + m) (put o q p)
  | n, [], q, c, _, _ => ho.mono (by omega)
  | 0, _ :: _, _, _, h, _ => h.elim
  | n + 1, i :: p, q, c, ⟨f, g1, k⟩, h => by
    obtain ⟨d, e, g⟩ := getAt_cons h
    have hd := gq_put ho (k d (List.mem_of_getElem? e)) g
    rw [put_cons e, show n + 1 + m = (n + m) + 1 by omega]
    have hl : (Q.node q.hd (q.kids.set i (put o d p))).kids.length = q.kids.length := List.length_set
    refine ⟨?_, ?_, fun x hx => ?_⟩
    · rw [hl]; exact f
    · rw [hl]; exact g1
    · have hx : x ∈ q.kids.set i (put o d p) := hx
      rcases List.mem_or_eq_of_mem_set hx with z | z
      · exact (k x z).mono (by omega)
      · rw [z]; exact hd
theorem gq_kid {n : Nat} {q c : Q} (h : gq n q) (hc : c ∈ q.kids) : gq n c := by
  cases n with
  | zero => exact h.elim
  | succ n => exact (h.2.2 c hc).mono (Nat.le_succ _)
mutual
theorem fr_ok : ∀ {n : Nat} {q : Q}, gq n q → ∀ x ∈ fr q, NameOk x
  | 0, _, h, _, _ => h.elim
  | n + 1, q, ⟨f, g1, k⟩, x, hx => by
    rw [fr_node] at hx
    rcases List.mem_append.mp hx with hx | hx
    · cases hh : q.hd with
      | leaf w d =>
        rw [hh] at g1 hx
        have hx : x ∈ leafN w d := hx
        cases d with
        | str y =>
          have hx : x ∈ (if w = "name" then [y] else []) := hx
          split at hx
          · rename_i e
            rw [List.mem_singleton.mp hx]
            subst e
            rcases g1 with ⟨e, _⟩ | ⟨e, _⟩ | ⟨e, _⟩ | ⟨e, _⟩ | ⟨_, z, e, hz⟩
            · exact absurd e (by decide)
            · exact absurd e (by decide)
            · exact absurd e (by decide)
            · exact absurd e (by decide)
            · cases e; exact hz
          · cases hx
        | _ => exact (by cases hx)
      | _ => rw [hh] at hx; exact (by cases hx)
    · exact frs_ok k x hx
theorem frs_ok : ∀ {n : Nat} {h : Hd} {i : Nat} {cs : List Q}, (∀ c ∈ cs, gq n c) → ∀ x ∈ frs h i cs, NameOk x
  | _, _, _, [], _, x, hx => by unfold frs at hx; cases hx
  | n, h, i, c :: r, k, x, hx => by
    unfold frs at hx
    rcases List.mem_append.mp hx with hx | hx
    · exact fr_ok (k c (.head _)) x (List.mem_filter.mp hx).1
    · exact frs_ok (fun y hy => k y (.tail _ hy)) x hx
end
/-! the names in order -/
def srtd (xs : List Str) : List Str := (uniq xs).mergeSort leS
theorem uniq_mem {x : Str} : ∀ {xs : List Str}, x ∈ uniq xs ↔ x ∈ xs
  | [] => by unfold uniq; exact Iff.rfl
  | y :: r => by
    unfold uniq
    split
    · rename_i h
      rw [uniq_mem, List.mem_cons]
      exact ⟨.inr, fun h2 => h2.elim (fun e => by rw [e]; exact h) id⟩
    · rw [List.mem_cons, List.mem_cons, uniq_mem]
theorem uniq_nd : ∀ xs : List Str, (uniq xs).Nodup
  | [] => by unfold uniq; exact .nil
  | y :: r => by
    unfold uniq
    split
    · exact uniq_nd r
    · rename_i h
      exact List.nodup_cons.mpr ⟨fun z => h (uniq_mem.mp z), uniq_nd r⟩
theorem leS_anti {a b : Str} (h : leS a b = true) (g : leS b a = true) : a = b := str_ext (List.le_antisymm (of_decide_eq_true h) (of_decide_eq_true g))
theorem perm_of {xs ys : List Str} (h1 : xs.Nodup) (h2 : ys.Nodup) (h : ∀ x, x ∈ xs ↔ x ∈ ys) : xs.Perm ys :=
  (List.perm_ext_iff_of_nodup h1 h2).mpr h
theorem sortPerm {xs ys : List Str} (h : xs.Perm ys) : xs.mergeSort leS = ys.mergeSort leS := by
  have p : (xs.mergeSort leS).Perm (ys.mergeSort leS) := (List.mergeSort_perm xs leS).trans (h.trans (List.mergeSort_perm ys leS).symm)
  exact p.eq_of_pairwise (fun a b _ _ h1 h2 => leS_anti h1 h2) (List.pairwise_mergeSort (le := leS) le_trans' le_total xs) (List.pairwise_mergeSort (le := leS) le_trans' le_total ys)
/-- whatever is gathered without repeats, in order -/
theorem srtd_of {ss xs : List Str} (h1 : ss.Nodup) (h : ∀ x, x ∈ ss ↔ x ∈ xs) : ss.mergeSort leS = srtd xs :=
  sortPerm (perm_of h1 (uniq_nd xs) fun x => (h x).trans uniq_mem.symm)
theorem srtd_congr {xs ys : List Str} (h : ∀ x, x ∈ xs ↔ x ∈ ys) : srtd xs = srtd ys := srtd_of (uniq_nd xs) fun x => uniq_mem.trans (h x)
theorem srtd_mem {x : Str} {xs : List Str} : x ∈ srtd xs ↔ x ∈ xs := ((List.mergeSort_perm (uniq xs) leS).mem_iff).trans uniq_mem
theorem srtd_len (xs : List Str) : (srtd xs).length ≤ xs.length := by
  unfold srtd
  rw [(List.mergeSort_perm (uniq xs) leS).length_eq]
  have : ∀ xs : List Str, (uniq xs).length ≤ xs.length := fun xs => by
    induction xs with
    | nil => unfold uniq; exact Nat.le_refl _
    | cons y r ih => unfold uniq; split <;> simp <;> omega
  exact this xs
theorem nd_len {ss xs : List Str} (h1 : ss.Nodup) (h : ∀ x, x ∈ ss → x ∈ xs) : ss.length ≤ xs.length := by
  have p := perm_of (xs := ss) (ys := (uniq xs).filter fun x => decide (x ∈ ss)) h1 ((uniq_nd xs).sublist List.filter_sublist) fun x => by
    rw [List.mem_filter, uniq_mem]
    exact ⟨fun hx => ⟨h x hx, decide_eq_true hx⟩, fun hx => of_decide_eq_true hx.2⟩
  rw [p.length_eq]
  refine Nat.le_trans (List.length_filter_le _ _) ?_
  have : ∀ xs : List Str, (uniq xs).length ≤ xs.length := fun xs => by
    induction xs with
    | nil => unfold uniq; exact Nat.le_refl _
    | cons y r ih => unfold uniq; split <;> simp <;> omega
  exact this xs
end Nv

set_option Elab.async false
set_option maxRecDepth 100000
set_option autoImplicit false
set_option linter.all false
set_option maxHeartbeats 4000000
/-! S2k: free names; chains -/
namespace Nv.S2
open PySem PySem.Spec PyProof.Rows L2
def b_p_bound_in (c g : Str → Nat) : Sm := (.cons (.ifs (.and (.cmp .inn (.ix (.var 0) (.int 0)) (.gc (g "BINDING"))) (.cmp .eq (.var 1) (.int 1)))
    (.cons (.ret (.lst (.cons (.ix (.var 0) (.int 1)) .nil))) .nil) .nil) (.cons (.ifs (.and (.cmp .eq (.ix (.var
    0) (.int 0)) (.str "match")) (.cmp .gt (.var 1) (.int 0))) (.cons (.ret (.lst (.cons (.ix (.ix (.ix (.var 0)
    (.int 2)) (.bin .sub (.var 1) (.int 1))) (.int 1)) .nil))) .nil) .nil) (.cons (.ret (.lst .nil)) .nil)))
def f_p_bound_in (c g : Str → Nat) : Fn := ⟨"bound_in", ["question", "number"], ["question", "number"], b_p_bound_in c g⟩
def b_p_free_set (c g : Str → Nat) : Sm := (.cons (.set (.v 1) .dnew) (.cons (.ifs (.cmp .eq (.ix (.var 0) (.int 0)) (.str "name")) (.cons (.setI (.var
    1) (.ix (.var 0) (.int 1)) (.bl true)) .nil) .nil) (.cons (.for_ (.c (.v 2) (.c (.v 3) .n)) (.i1 .enumerate
    (.call (c "parts") (.cons (.var 0) .nil))) (.cons (.set (.v 4) (.frz (.call (c "bound_in") (.cons (.var 0)
    (.cons (.var 2) .nil))))) (.cons (.for_ (.v 5) (.frz (.call (c "free_set") (.cons (.var 3) .nil))) (.cons
    (.ifs (.cmp .nin (.var 5) (.var 4)) (.cons (.setI (.var 1) (.var 5) (.bl true)) .nil) .nil) .nil)) .nil)))
    (.cons (.ret (.var 1)) .nil))))
def f_p_free_set (c g : Str → Nat) : Fn := ⟨"free_set", ["question"], ["question", "found", "number", "part", "bound", "name"], b_p_free_set c g⟩
def b_p_free_names (c g : Str → Nat) : Sm := (.cons (.ret (.b1 .sorted (.call (c "free_set") (.cons (.var 0) .nil)))) .nil)
def f_p_free_names (c g : Str → Nat) : Fn := ⟨"free_names", ["question"], ["question"], b_p_free_names c g⟩
def b_chain (c g : Str → Nat) : Sm := (.cons (.for_ (.v 3) (.i1 .range (.bin .mul (.var 2) (.b1 .int (.cmp .eq (.call (c "_law_digit") (.cons (.var
    0) (.cons (.int 3) .nil))) (.int 1))))) (.cons (.set (.v 4) (.frz (.call (c "_law_digit") (.cons (.var 0)
    (.cons (.int 6) .nil))))) (.cons (.ifs (.cmp .lt (.var 4) (.int 3)) (.cons (.set (.v 1) (.tup (.cons (.ix
    (.lst (.cons (.str "one") (.cons (.str "not") (.cons (.str "unlike") .nil)))) (.var 4)) (.cons (.var 1)
    .nil)))) .nil) (.cons (.ifs (.cmp .eq (.var 4) (.int 3)) (.cons (.set (.v 1) (.tup (.cons (.str "field")
    (.cons (.var 1) (.cons (.str "a") .nil))))) .nil) (.cons (.set (.v 1) (.tup (.cons (.ix (.lst (.cons (.str
    "let") (.cons (.str "for") .nil))) (.bin .sub (.var 4) (.int 4))) (.cons (.frz (.call (c "_law_name") (.cons
    (.var 0) .nil))) (.cons (.tup (.cons (.str "number") (.cons (.var 3) .nil))) (.cons (.var 1) .nil)))))) .nil))
    .nil)) .nil))) (.cons (.ret (.var 1)) .nil))
def f_chain (c g : Str → Nat) : Fn := ⟨"_law_chain", ["_law_pot_here", "_law_question_here", "_law_most"], ["_law_pot_here", "_law_question_here", "_law_most", "_law_k", "_law_way"], b_chain c g⟩
end Nv.S2
namespace Nv
open PySem PySem.Spec PyProof.Rows L2
@[simp ↓] theorem evi_frz {β : Type} {cf : Nat → List D → Sto → Res RD} {g : Nat → Option D} {l : Loc} {s : Sto} {a : Ex} {k : Its → Sto → Res β} : evi cf g (.frz a) l s k = ev cf g (.frz a) l s fun x s1 => opK (itsR s1 x) s1 k := bind_assoc _ _ _
theorem frs_cons {h : Hd} {i : Nat} {k : Q} {r : List Q} : frs h i (k :: r) = (fr k).filter (fun x => decide (bndAt h i ≠ some x)) ++ frs h (i + 1) r := by rw [frs]
theorem in_strsF {s : Sto} {x : Str} {ws : List Str} (hx : lv x) (hw : ∀ w ∈ ws, lv w) : inR s (.d (.str x)) (.d (.lf (ws.map D.str))) = some (decide (x ∈ ws)) := (in_strs (s := s) hx hw).2
/-- texts, each to True -/
def tset (ss : List Str) : List (D × D) := ss.map fun x => (D.str x, D.bl true)
def ins (x : Str) (ss : List Str) : List Str := if x ∈ ss then ss else ss ++ [x]
@[simp] theorem dK_tset (ss : List Str) : dK (tset ss) = true := dK_map ss
theorem set_true {s : Sto} {x : Str} {ss : List Str} (h : ss.length < 1000000) : setR (.obj s.length) (.str x) (.bl true) (s ++ [.dct (tset ss)]) = .ok () (s ++ [.dct (tset (ins x ss))]) := by
  rw [setR_str, mid_at]
  simp only
  have h1 : (tset ss).length < sizeLine := by unfold tset; rw [List.length_map, sizeLine_eq]; omega
  rw [if_pos ⟨h1, dK_tset ss⟩]
  unfold tset ins
  rw [dput_true, set_mid]
theorem ins_nd {x : Str} {ss : List Str} (h : ss.Nodup) : (ins x ss).Nodup := by
  unfold ins
  split
  · exact h
  · rename_i hx
    exact List.nodup_append.mpr ⟨h, by simp, fun a ha b hb => by rw [List.mem_singleton.mp hb]; rintro rfl; exact hx ha⟩
theorem ins_mem {x y : Str} {ss : List Str} : y ∈ ins x ss ↔ y ∈ ss ∨ y = x := by
  unfold ins
  split
  · rename_i hx
    exact ⟨.inl, fun h => h.elim id fun e => by rw [e]; exact hx⟩
  · rw [List.mem_append, List.mem_singleton]
theorem ins_len {x : Str} {ss : List Str} : (ins x ss).length ≤ ss.length + 1 := by
  unfold ins
  split
  · omega
  · rw [List.length_append]; simp
theorem lt_tset {n : Nat} (ss : List Str) : Ob.lt n (.dct (tset ss)) = true := lt_keys ss
def bndL (h : Hd) (i : Nat) : List Str := match bndAt h i with
  | some x => [x]
  | none => []
theorem bndL_mem {h : Hd} {i : Nat} {x : Str} : x ∉ bndL h i ↔ bndAt h i ≠ some x := by
  unfold bndL
  cases bndAt h i with
  | none => simp
  | some y => simp [eq_comm]
theorem bndL_ok {n i : Nat} {q : Q} (h : gq n q) : ∀ x ∈ bndL q.hd i, NameOk x := by
  cases n with
  | zero => exact h.elim
  | succ n =>
    obtain ⟨_, g1, _⟩ := h
    intro x hx
    unfold bndL at hx
    split at hx
    · rename_i y e
      rw [List.mem_singleton.mp hx]
      cases hh : q.hd with
      | bnd w z =>
        rw [hh] at e g1
        have e : (if i = 1 then some z else none) = some y := e
        by_cases hi : i = 1
        · rw [if_pos hi] at e; cases e; exact g1
        · rw [if_neg hi] at e; cases e
      | mat ns =>
        rw [hh] at e g1
        have e : (if i = 0 then none else (ns[i - 1]?).map (·.2)) = some y := e
        by_cases hi : i = 0
        · rw [if_pos hi] at e; cases e
        · rw [if_neg hi] at e
          obtain ⟨p, e1, rfl⟩ := Option.map_eq_some_iff.mp e
          exact (g1.2.2 p (List.mem_of_getElem? e1)).2
      | _ => rw [hh] at e; cases e
    · cases hx
end Nv
namespace Nv.S2
open PySem PySem.Spec PyProof.Rows L2
section
variable {T : Tab} {c g : Str → Nat}
structure EF (T : Tab) (c g : Str → Nat) : Prop extends EP T c g where
  bound_in : T.fns[c "bound_in"]? = some (f_p_bound_in c g)
  free_set : T.fns[c "free_set"]? = some (f_p_free_set c g)
  free_names : T.fns[c "free_names"]? = some (f_p_free_names c g)
theorem fin_l {s : Sto} {xs : List Str} (hs : Clo s) : Nv.fin s.length (.l (xs.map D.str)) s = .ok (.l (xs.map D.str)) s := fin_ls hs (lt_strs xs)
theorem t_bound_in (E : EF T c g) {m n i : Nat} {s : Sto} {q : Q} (hm : 1 ≤ m) (hs : Clo s) (h : Q.ok n q) (hi : i < q.kids.length) : callN T m (c "bound_in") [q.toD, .int i] s = .ok (.l ((bndL q.hd i).map D.str)) s := by
  obtain ⟨m, rfl⟩ : ∃ k, m = k + 1 := ⟨m - 1, by omega⟩
  cases n with
  | zero => exact h.elim
  | succ n =>
  obtain ⟨f, _⟩ := h
  have hf := fin_l (xs := bndL q.hd i) hs
  rw [call_at E.bound_in rfl, toD_node]
  have hl : (q.kids.map Q.toD).length = q.kids.length := List.length_map _
  rw [← hl] at hi f
  generalize q.kids.map Q.toD = cs at *
  generalize q.hd = h at *
  cases h with
  | leaf w d => exact absurd hi (by have := f.1; omega)
  | rcd ns =>
    obtain ⟨_, _, b1, _, _, q3, _⟩ := wb_of (s := s) wc_rcd
    simp [bndL, bndAt] at hf
    simp -implicitDefEqProofs [f_p_bound_in, b_p_bound_in, E.binding, mkD, b1, q3, bndL, bndAt, hf]
  | mat ns =>
    obtain ⟨f1, _, _⟩ := f
    obtain ⟨_, _, b1, _, _, q3, _⟩ := wb_of (s := s) wc_mat
    by_cases h0 : i = 0
    · subst h0
      simp [bndL, bndAt] at hf
      simp -implicitDefEqProofs [f_p_bound_in, b_p_bound_in, E.binding, mkD, b1, q3, bndL, bndAt, hf]
    · have h1 : (0 : Int) < (i : Int) := by omega
      match cs, f1, hi with
      | c0 :: cs, f1, hi =>
        have f1 : cs.length = ns.length := by simpa using f1
        have hi : i < cs.length + 1 := hi
        have hin : i - 1 < ns.length := by omega
        have hic : i - 1 < cs.length := by omega
        have hz := zw_get (f := fun (n : Str × Str) c => D.tup [.str n.1, .str n.2, c]) (i := i - 1) (List.getElem?_eq_getElem hin) (List.getElem?_eq_getElem hic)
        have ha : atI (List.zipWith (fun (n : Str × Str) c => D.tup [.str n.1, .str n.2, c]) ns cs) ((i : Int) - 1) = some (.tup [.str ns[i - 1].1, .str ns[i - 1].2, cs[i - 1]]) := by
          rw [show (i : Int) - 1 = ((i - 1 : Nat) : Int) by omega]
          exact atI_nat hz
        have hb : bndL (.mat ns) i = [ns[i - 1].2] := by
          show (match (if i = 0 then none else (ns[i - 1]?).map (·.2)) with | some x => [x] | none => []) = _
          rw [if_neg h0, List.getElem?_eq_getElem hin]; rfl
        rw [hb] at hf ⊢
        simp at hf
        simp -implicitDefEqProofs [f_p_bound_in, b_p_bound_in, E.binding, mkD, b1, q3, h0, h1, ha, hf]
  | fld w x =>
    obtain ⟨f1, f2, _⟩ := f
    simp [bndL, bndAt] at hf
    rcases List.mem_cons.mp f2 with rfl | f2
    · obtain ⟨_, _, b1, _, _, q3, _⟩ := wb_of (s := s) wc_fld
      simp -implicitDefEqProofs [f_p_bound_in, b_p_bound_in, E.binding, mkD, b1, q3, bndL, bndAt, hf]
    · rcases List.mem_cons.mp f2 with rfl | f2
      · obtain ⟨_, _, b1, _, _, q3, _⟩ := wb_of (s := s) wc_cas
        simp -implicitDefEqProofs [f_p_bound_in, b_p_bound_in, E.binding, mkD, b1, q3, bndL, bndAt, hf]
      · cases f2
  | tag k x =>
    simp [bndL, bndAt] at hf
    obtain ⟨_, _, b1, _, _, q3, _⟩ := wb_of (s := s) wc_tag
    simp -implicitDefEqProofs [f_p_bound_in, b_p_bound_in, E.binding, mkD, b1, q3, bndL, bndAt, hf]
  | bnd w x =>
    obtain ⟨f1, f2, _⟩ := f
    obtain ⟨_, _, b1, _, _, q3, _⟩ := wb_of (s := s) (wc_bind w f2)
    by_cases h1 : i = 1
    · subst h1
      simp [bndL, bndAt] at hf
      simp -implicitDefEqProofs [f_p_bound_in, b_p_bound_in, E.binding, mkD, b1, q3, bndL, bndAt, hf]
    · have h2 : ¬ ((i : Int) = 1) := by omega
      simp [bndL, bndAt, h1] at hf
      simp -implicitDefEqProofs [f_p_bound_in, b_p_bound_in, E.binding, mkD, b1, q3, bndL, bndAt, h1, h2, hf]
  | pln w =>
    obtain ⟨_, _, f2⟩ := f
    obtain ⟨_, _, b1, _, _, q3, _⟩ := wb_of (s := s) (wc_pln w f2)
    simp [bndL, bndAt] at hf
    simp -implicitDefEqProofs [f_p_bound_in, b_p_bound_in, E.binding, mkD, b1, q3, bndL, bndAt, hf]
/-! the names of a part, but for those that are bound -/
def innerB : Sm := .cons (.ifs (.cmp .nin (.var 5) (.var 4)) (.cons (.setI (.var 1) (.var 5) (.bl true)) .nil) .nil) .nil
theorem free_inner {m : Nat} {s : Sto} {v0 : D} {o2 o3 : Option D} {bs : List Str} (hb : ∀ x ∈ bs, lv x) : ∀ {ws acc : List Str} {o5 : Option D}, (∀ x ∈ ws, lv x) → acc.Nodup → acc.length + ws.length ≤ 100000 →
    ∃ (acc' : List Str) (o5' : Option D), acc'.Nodup ∧ (∀ x, x ∈ acc' ↔ x ∈ acc ∨ (x ∈ ws ∧ x ∉ bs)) ∧ ∀ j : Fl → Loc → Sto → Res RD,
      forK (.v 5) none (sden (callN T m) T.gc innerB) (ws.map D.str) [some v0, some (.obj s.length), o2, o3, some (.lf (bs.map D.str)), o5] (s ++ [.dct (tset acc)]) j = j .nx [some v0, some (.obj s.length), o2, o3, some (.lf (bs.map D.str)), o5'] (s ++ [.dct (tset acc')])
  | [], acc, o5, _, hn, _ => ⟨acc, o5, hn, fun x => by simp, fun j => for_nil (src := none) trivial⟩
  | w :: ws, acc, o5, hw, hn, hz => by
    rw [List.length_cons] at hz
    have h1 : inR (s ++ [.dct (tset acc)]) (.d (.str w)) (.d (.lf (bs.map D.str))) = some (decide (w ∈ bs)) := in_strsF (hw w (.head _)) hb
    by_cases hwb : w ∈ bs
    · obtain ⟨acc', o5', i1, i2, i3⟩ := free_inner (m := m) (s := s) (v0 := v0) (o2 := o2) (o3 := o3) hb (ws := ws) (acc := acc) (o5 := some (.str w)) (fun x hx => hw x (.tail _ hx)) hn (by omega)
      refine ⟨acc', o5', i1, fun x => ?_, fun j => ?_⟩
      · rw [i2, List.mem_cons]
        constructor
        · rintro (h | ⟨h1, h2⟩)
          · exact .inl h
          · exact .inr ⟨.inr h1, h2⟩
        · rintro (h | ⟨h1 | h1, h2⟩)
          · exact .inl h
          · subst h1; exact absurd hwb h2
          · exact .inr ⟨h1, h2⟩
      · rw [List.map_cons, for_cons (src := none) trivial]
        simp -implicitDefEqProofs [innerB, h1, hwb]
        exact i3 j
    · have hi := ins_nd (x := w) hn
      have hl := ins_len (x := w) (ss := acc)
      obtain ⟨acc', o5', i1, i2, i3⟩ := free_inner (m := m) (s := s) (v0 := v0) (o2 := o2) (o3 := o3) hb (ws := ws) (acc := ins w acc) (o5 := some (.str w)) (fun x hx => hw x (.tail _ hx)) hi (by omega)
      have hset := set_true (s := s) (x := w) (ss := acc) (by omega)
      refine ⟨acc', o5', i1, fun x => ?_, fun j => ?_⟩
      · rw [i2, List.mem_cons, ins_mem]
        constructor
        · rintro ((h | h) | ⟨h1, h2⟩)
          · exact .inl h
          · exact .inr ⟨.inl h, by rw [h]; exact hwb⟩
          · exact .inr ⟨.inr h1, h2⟩
        · rintro (h | ⟨h1 | h1, h2⟩)
          · exact .inl (.inl h)
          · exact .inl (.inr h1)
          · exact .inr ⟨h1, h2⟩
      · rw [List.map_cons, for_cons (src := none) trivial]
        simp -implicitDefEqProofs [-setR_str, innerB, h1, hwb, hset]
        exact i3 j
def outerB (c : Str → Nat) : Sm := .cons (.set (.v 4) (.frz (.call (c "bound_in") (.cons (.var 0)
    (.cons (.var 2) .nil))))) (.cons (.for_ (.v 5) (.frz (.call (c "free_set") (.cons (.var 3) .nil))) (.cons
    (.ifs (.cmp .nin (.var 5) (.var 4)) (.cons (.setI (.var 1) (.var 5) (.bl true)) .nil) .nil) .nil)) .nil)
def FS (T : Tab) (c : Str → Nat) (n : Nat) : Prop := ∀ (m : Nat) (q : Q) (s : Sto), n + 2 ≤ m → Clo s → gq n q → nl q ≤ 10000 → ∃ ss : List Str, ss.Nodup ∧ (∀ x, x ∈ ss ↔ x ∈ fr q) ∧ callN T m (c "free_set") [q.toD] s = .ok (.m (tset ss)) s
theorem free_outer (E : EF T c g) {n m : Nat} {s : Sto} {q : Q} (ih : FS T c n) (hm : n + 2 ≤ m) (hs : Clo s) (hq : gq (n + 1) q) : ∀ {rest : List Q} {i : Nat} {acc : List Str} {o2 o3 o4 o5 : Option D}, (∀ x ∈ rest, gq n x) → i + rest.length ≤ q.kids.length → nls rest ≤ 10000 → acc.Nodup → acc.length + nls rest ≤ 50000 →
    ∃ (acc' : List Str) (o2' o3' o4' o5' : Option D), acc'.Nodup ∧ (∀ x, x ∈ acc' ↔ x ∈ acc ∨ x ∈ frs q.hd i rest) ∧ ∀ j : Fl → Loc → Sto → Res RD,
      forK (.c (.v 2) (.c (.v 3) .n)) none (sden (callN T m) T.gc (outerB c)) (numbered i (rest.map Q.toD)) [some q.toD, some (.obj s.length), o2, o3, o4, o5] (s ++ [.dct (tset acc)]) j = j .nx [some q.toD, some (.obj s.length), o2', o3', o4', o5'] (s ++ [.dct (tset acc')])
  | [], i, acc, o2, o3, o4, o5, _, _, _, hn, _ => ⟨acc, o2, o3, o4, o5, hn, fun x => by unfold frs; simp, fun j => for_nil (src := none) trivial⟩
  | k :: rest, i, acc, o2, o3, o4, o5, hr, hi, hz, hn, hl => by
    rw [List.length_cons] at hi
    have hnk : nls (k :: rest) = nl k + nls rest := rfl
    rw [hnk] at hz hl
    have hk := hr k (.head _)
    have hs1 : Clo (s ++ [.dct (tset acc)]) := hs.push (lt_tset _)
    have e1 := t_bound_in E (m := m) (i := i) (s := s ++ [.dct (tset acc)]) (by omega) hs1 hq.ok (by omega)
    obtain ⟨ss, s1, s2, e2⟩ := ih m k (s ++ [.dct (tset acc)]) hm hs1 hk (by omega)
    have hsl : ss.length ≤ nl k := Nat.le_trans (nd_len s1 fun x hx => (s2 x).mp hx) (fr_len k)
    obtain ⟨acc1, o51, j1, j2, e3⟩ := free_inner (T := T) (m := m) (s := s) (v0 := q.toD) (o2 := some (.int i)) (o3 := some k.toD) (bs := bndL q.hd i) (fun x hx => (bndL_ok hq x hx).lv) (ws := ss) (acc := acc) (o5 := o5) (fun x hx => (fr_ok hk x ((s2 x).mp hx)).lv) hn (by omega)
    have ha1 : acc1.length ≤ acc.length + nl k := by
      have := nd_len (xs := acc ++ ss) j1 fun x hx => by
        rcases (j2 x).mp hx with h | h
        · exact List.mem_append.mpr (.inl h)
        · exact List.mem_append.mpr (.inr h.1)
      rw [List.length_append] at this
      omega
    obtain ⟨acc', o2', o3', o4', o5', i1, i2, e4⟩ := free_outer E ih hm hs hq (rest := rest) (i := i + 1) (acc := acc1) (o2 := some (.int i)) (o3 := some k.toD) (o4 := some (.lf ((bndL q.hd i).map D.str))) (o5 := o51) (fun x hx => hr x (.tail _ hx)) (by omega) (by omega) j1 (by omega)
    refine ⟨acc', o2', o3', o4', o5', i1, fun x => ?_, fun j => ?_⟩
    · rw [i2, j2, frs_cons, List.mem_append, List.mem_filter, s2, bndL_mem, or_assoc, decide_eq_true_iff]
    · have hk1 : (tset ss).map (·.1) = ss.map D.str := by unfold tset; rw [List.map_map]; rfl
      unfold innerB at e3
      rw [List.map_cons, numbered, for_cons (src := none) trivial]
      simp -implicitDefEqProofs [outerB, callK_of e1, callK_of e2, hk1, e3]
      exact e4 j
theorem hd_name {n : Nat} {q : Q} (h : gq n q) : (∃ x, q.toD = .tup [.str "name", .str x] ∧ NameOk x ∧ hdN q.hd = [x] ∧ q.kids = []) ∨ (hdN q.hd = [] ∧ ∃ w r, q.toD = .tup (.str w :: r) ∧ w ∈ words ∧ w ≠ "name") := by
  cases n with
  | zero => exact h.elim
  | succ n =>
  obtain ⟨f, g1, _⟩ := h
  rw [toD_node]
  have hl : (q.kids.map Q.toD).length = q.kids.length := List.length_map _
  have hk : q.kids.length = 0 → q.kids = [] := List.eq_nil_of_length_eq_zero
  rw [← hl] at f
  generalize q.hd = h at *
  cases h with
  | leaf w d =>
    obtain ⟨f1, f2, _⟩ := f
    rcases g1 with ⟨rfl, i, rfl, _⟩ | ⟨rfl, x, rfl, _⟩ | ⟨rfl, b, rfl⟩ | ⟨rfl, k, rfl, _⟩ | ⟨rfl, x, rfl, hx⟩
    · exact .inr ⟨rfl, _, _, rfl, by decide, by decide⟩
    · exact .inr ⟨by show (if ("text" : Str) = "name" then [x] else []) = []; rw [if_neg (by decide)], _, _, rfl, by decide, by decide⟩
    · exact .inr ⟨rfl, _, _, rfl, by decide, by decide⟩
    · exact .inr ⟨by cases k <;> rfl, _, _, rfl, by decide, by decide⟩
    · exact .inl ⟨x, rfl, hx, by show (if ("name" : Str) = "name" then [x] else []) = [x]; rw [if_pos rfl], hk (by omega)⟩
  | rcd ns => exact .inr ⟨rfl, _, _, rfl, by decide, by decide⟩
  | mat ns => exact .inr ⟨rfl, _, _, rfl, by decide, by decide⟩
  | fld w x =>
    have hw : ∀ w ∈ fldW, w ∈ words ∧ w ≠ "name" := by decide
    exact .inr ⟨rfl, _, _, rfl, (hw w f.2.1).1, (hw w f.2.1).2⟩
  | tag k x => exact .inr ⟨rfl, _, _, rfl, by decide, by decide⟩
  | bnd w x =>
    have hw : ∀ w ∈ bindW, w ∈ words ∧ w ≠ "name" := by decide
    exact .inr ⟨rfl, _, _, rfl, (hw w f.2.1).1, (hw w f.2.1).2⟩
  | pln w =>
    have hw : ∀ w ∈ plnW, w ∈ words ∧ w ≠ "name" := by decide
    exact .inr ⟨rfl, _, _, rfl, (hw w f.2.2).1, (hw w f.2.2).2⟩
theorem w_name : ("name" : Str) ∈ words := by decide
theorem t_free_set (E : EF T c g) : ∀ n : Nat, FS T c n := by
  intro n
  induction n with
  | zero => intro m q s _ _ h; exact h.elim
  | succ n ih =>
    intro m q s hm hs hq hz
    obtain ⟨m, rfl⟩ : ∃ k, m = k + 1 := ⟨m - 1, by omega⟩
    have hs0 : Clo (s ++ [.dct (tset [])]) := hs.push (lt_tset _)
    have e1 : ∀ acc, callN T m (c "parts") [q.toD] (s ++ [.dct (tset acc)]) = .ok (.l (q.kids.map Q.toD)) (s ++ [.dct (tset acc)]) := fun acc => t_partsQ E.toEP (by omega) (hs.push (lt_tset _)) hq.ok
    have hnl := nl_node q
    have hfr := fr_node q
    obtain ⟨acc, o2, o3, o4, o5, i1, i2, e2⟩ := free_outer E ih (m := m) (by omega) hs hq (rest := q.kids) (i := 0) (acc := hdN q.hd) (o2 := none) (o3 := none) (o4 := none) (o5 := none) hq.2.2 (by omega) (by omega) (by
      have := hd_len q.hd
      match hdN q.hd, this with
      | [], _ => exact .nil
      | [x], _ => simp
      | _ :: _ :: _, h => simp at h) (by have := hd_len q.hd; omega)
    refine ⟨acc, i1, fun x => by rw [i2, hfr, List.mem_append], ?_⟩
    have hf : Nv.fin s.length (.d (.obj s.length)) (s ++ [.dct (tset acc)]) = .ok (.m (tset acc)) s := fin_newD hs (Nat.le_refl _) mid_at (lt_tset _)
    unfold outerB at e2
    have ht : ∀ k, (s ++ [Ob.dct (tset k)]) = s ++ [.dct (tset k)] := fun _ => rfl
    have h0 : (s ++ [Ob.dct []] : Sto) = s ++ [.dct (tset [])] := rfl
    rw [call_at E.free_set rfl]
    rcases hd_name hq with ⟨x, hx, hx2, hx3, _⟩ | ⟨hn, w, r, hw, hw2, hw3⟩
    · have hset := set_true (s := s) (x := x) (ss := []) (by simp)
      rw [hx3] at e2
      have hi : ins x [] = [x] := rfl
      rw [hi] at hset
      have hn := same_w (s := s ++ [.dct (tset [])]) w_name
      have e1 := e1 [x]
      rw [hx] at e1 e2 ⊢
      simp -implicitDefEqProofs [-setR_str, f_p_free_set, b_p_free_set, h0, hn, hset, callK_of e1, e2, hf]
    · rw [hn] at e2
      have hne := ne_w (s := s ++ [.dct (tset [])]) hw2 w_name hw3
      have e1 := e1 []
      rw [hw] at e1 e2 ⊢
      simp -implicitDefEqProofs [f_p_free_set, b_p_free_set, h0, hne, callK_of e1, e2, hf]
theorem t_free_names (E : EF T c g) {n m : Nat} {q : Q} {s : Sto} (hm : n + 3 ≤ m) (hs : Clo s) (hq : gq n q) (hz : nl q < 64) : callN T m (c "free_names") [q.toD] s = .ok (.l ((srtd (fr q)).map D.str)) s := by
  obtain ⟨m, rfl⟩ : ∃ k, m = k + 1 := ⟨m - 1, by omega⟩
  obtain ⟨ss, h1, h2, e1⟩ := t_free_set E n m q s (by omega) hs hq (by omega)
  have hl : ss.length ≤ nl q := Nat.le_trans (nd_len h1 fun x hx => (h2 x).mp hx) (fr_len q)
  have hso : b1R .sorted s (.m (tset ss)) = some (.l ((ss.mergeSort leS).map .str)) := sorted_dctA (f := fun _ => D.bl true) (by show (if dK _ = true then some _ else none) = _; rw [if_pos (dK_tset ss)]; rfl) (by omega)
  rw [srtd_of h1 h2] at hso
  have hf := fin_l (xs := srtd (fr q)) hs
  rw [call_at E.free_names rfl]
  simp -implicitDefEqProofs [f_p_free_names, b_p_free_names, callK_of e1, hso, hf]
end
end Nv.S2

set_option Elab.async false
set_option maxRecDepth 100000
set_option autoImplicit false
set_option linter.all false
set_option maxHeartbeats 4000000
/-! S2l: chains -/
namespace Nv.S2
open PySem PySem.Spec PyProof.Rows L2
section
variable {T : Tab} {c g : Str → Nat}
theorem upTo_int : ∀ (n : Nat) {lo : Int} {x : D}, x ∈ upTo lo n → ∃ k : Int, x = .int k ∧ lo ≤ k ∧ k < lo + n
  | 0, _, _, h => by unfold upTo at h; cases h
  | n + 1, lo, x, h => by
    unfold upTo at h
    rcases List.mem_cons.mp h with e | h
    · exact ⟨_, e, by omega, by omega⟩
    · obtain ⟨k, h1, h2, h3⟩ := upTo_int n h
      exact ⟨k, h1, by omega, by omega⟩
def chainB (c : Str → Nat) : Sm := .cons (.set (.v 4) (.frz (.call (c "_law_digit") (.cons (.var 0) (.cons (.int 6) .nil))))) (.cons (.ifs (.cmp .lt (.var 4) (.int 3)) (.cons (.set (.v 1) (.tup (.cons (.ix
    (.lst (.cons (.str "one") (.cons (.str "not") (.cons (.str "unlike") .nil)))) (.var 4)) (.cons (.var 1)
    .nil)))) .nil) (.cons (.ifs (.cmp .eq (.var 4) (.int 3)) (.cons (.set (.v 1) (.tup (.cons (.str "field")
    (.cons (.var 1) (.cons (.str "a") .nil))))) .nil) (.cons (.set (.v 1) (.tup (.cons (.ix (.lst (.cons (.str
    "let") (.cons (.str "for") .nil))) (.bin .sub (.var 4) (.int 4))) (.cons (.frz (.call (c "_law_name") (.cons
    (.var 0) .nil))) (.cons (.tup (.cons (.str "number") (.cons (.var 3) .nil))) (.cons (.var 1) .nil)))))) .nil))
    .nil)) .nil)
theorem sz_node' (h : Hd) (cs : List Q) : (Q.node h cs).sz = szs cs + 1 := sz_node (Q.node h cs)
theorem one_gq {n : Nat} {q : Q} {w : Str} (h : gq n q) (hw : w ∈ plnW) (ha : arity w = 1) : gq (n + 1) (.node (.pln w) [q]) :=
  ⟨⟨by simp [Q.kids], by simp [Q.kids], hw⟩, by show 1 = arity w; exact ha.symm, fun x hx => by rw [List.mem_singleton.mp hx]; exact h⟩
theorem fld_gq {n : Nat} {q : Q} {x : Str} (h : gq n q) (hx : NameOk x) : gq (n + 1) (.node (.fld "field" x) [q]) :=
  ⟨⟨rfl, by decide, hx.lv⟩, hx, fun x hx => by rw [List.mem_singleton.mp hx]; exact h⟩
theorem num_gq {n : Nat} {k : Int} (h : -(10 ^ 60) ≤ k ∧ k ≤ 10 ^ 60) : gq (n + 1) (.node (.leaf "number" (.int k)) []) := ⟨⟨rfl, by decide, sh_int⟩, .inl ⟨rfl, k, rfl, h.1, h.2⟩, fun x hx => by cases hx⟩
theorem bnd_gq {n : Nat} {q o : Q} {w x : Str} (ho : gq n o) (h : gq n q) (hw : w ∈ bindW) (hx : NameOk x) : gq (n + 1) (.node (.bnd w x) [o, q]) :=
  ⟨⟨rfl, hw, hx.lv⟩, hx, fun y hy => by
    rcases List.mem_cons.mp hy with e | hy
    · rw [e]; exact ho
    · rw [List.mem_singleton.mp hy]; exact h⟩
theorem nl_one {w : Str} {q : Q} : nl (.node (.pln w) [q]) = nl q := by simp [nl, nls, hdN]
theorem nl_fld {w x : Str} {q : Q} : nl (.node (.fld w x) [q]) = nl q := by simp [nl, nls, hdN]
theorem nl_num {k : Int} : nl (.node (.leaf "number" (.int k)) []) = 0 := by simp [nl, nls, hdN, leafN]
theorem nl_bnd {w x : Str} {o q : Q} : nl (.node (.bnd w x) [o, q]) = nl o + nl q := by simp [nl, nls, hdN]
theorem name_a : NameOk "a" := by decide
theorem chain_step (E : EG T c g) {m p : Nat} {s : Sto} {q : Q} {n : Nat} {k : Int} {v2 : D} {o4 : Option D} (hk : 0 ≤ k ∧ k < 100) (hm : 3 ≤ m) (hp : PotAt 3 p s) (hq : gq (n + 1) q) : ∃ q' o4' s', gq (n + 2) q' ∧ q'.sz ≤ q.sz + 2 ∧ nl q' = nl q ∧ Pc 3 p s s' ∧
    ∀ F : Fl → Loc → Sto → Res RD, sk (callN T m) T.gc (chainB c) [some (.obj p), some q.toD, some v2, some (.int k), o4] s F = F .nx [some (.obj p), some q'.toD, some v2, some (.int k), o4'] s' := by
  obtain ⟨w, s1, h1, h2, p1, e1⟩ := t_digit E (m := m) (s := s) (k := 6) (by omega) hp (by omega) (by decide)
  obtain ⟨x, s2, hx, p2, e2⟩ := t_name E (m := m) (s := s1) (by omega) (p1.at_ hp)
  have tb : ∀ (w : Str), (Q.node (.bnd w x) [.node (.leaf "number" (.int k)) [], q]).toD = .tup [.str w, .str x, .tup [.str "number", .int k], q.toD] := fun w => rfl
  have to : ∀ (w : Str), (Q.node (.pln w) [q]).toD = .tup [.str w, q.toD] := fun w => rfl
  have tf : (Q.node (.fld "field" "a") [q]).toD = .tup [.str "field", q.toD, .str "a"] := rfl
  have hn : gq (n + 1) (.node (.leaf "number" (.int k)) []) := num_gq ⟨by omega, by omega⟩
  have hc : w = 0 ∨ w = 1 ∨ w = 2 ∨ w = 3 ∨ w = 4 ∨ w = 5 := by omega
  rcases hc with rfl | rfl | rfl | rfl | rfl | rfl
  · refine ⟨.node (.pln "one") [q], some (.int 0), s1, one_gq hq (by decide) (by decide), by rw [sz_node']; simp [szs], nl_one, p1, fun F => ?_⟩
    simp -implicitDefEqProofs [chainB, callK_of e1, to]
  · refine ⟨.node (.pln "not") [q], some (.int 1), s1, one_gq hq (by decide) (by decide), by rw [sz_node']; simp [szs], nl_one, p1, fun F => ?_⟩
    simp -implicitDefEqProofs [chainB, callK_of e1, to]
  · refine ⟨.node (.pln "unlike") [q], some (.int 2), s1, one_gq hq (by decide) (by decide), by rw [sz_node']; simp [szs], nl_one, p1, fun F => ?_⟩
    simp -implicitDefEqProofs [chainB, callK_of e1, to]
  · refine ⟨.node (.fld "field" "a") [q], some (.int 3), s1, fld_gq hq name_a, by rw [sz_node']; simp [szs], nl_fld, p1, fun F => ?_⟩
    simp -implicitDefEqProofs [chainB, callK_of e1, tf]
  · refine ⟨.node (.bnd "let" x) [.node (.leaf "number" (.int k)) [], q], some (.int 4), s2, bnd_gq hn hq (by decide) hx, by rw [sz_node']; simp [szs, sz_node']; omega, by rw [nl_bnd, nl_num]; omega, p1.trans p2, fun F => ?_⟩
    simp -implicitDefEqProofs [chainB, callK_of e1, callK_of e2, tb]
  · refine ⟨.node (.bnd "for" x) [.node (.leaf "number" (.int k)) [], q], some (.int 5), s2, bnd_gq hn hq (by decide) hx, by rw [sz_node']; simp [szs, sz_node']; omega, by rw [nl_bnd, nl_num]; omega, p1.trans p2, fun F => ?_⟩
    simp -implicitDefEqProofs [chainB, callK_of e1, callK_of e2, tb]
theorem t_chain (E : EG T c g) (hch : T.fns[c "_law_chain"]? = some (f_chain c g)) {N m p : Nat} {s : Sto} {q : Q} (hN : N ≤ 50) (hm : 4 ≤ m) (hp : PotAt 3 p s) (hq : gq 9 q) : ∃ q' s', gq (9 + N) q' ∧ q'.sz ≤ q.sz + 2 * N ∧ nl q' = nl q ∧ Pc 3 p s s' ∧ callN T m (c "_law_chain") [.obj p, q.toD, .int N] s = .ok (.d q'.toD) s' := by
  obtain ⟨m, rfl⟩ : ∃ k, m = k + 1 := ⟨m - 1, by omega⟩
  obtain ⟨w, s1, h1, h2, p1, e1⟩ := t_digit E (m := m) (s := s) (k := 3) (by omega) hp (by omega) (by decide)
  have main : ∀ b : Nat, b ≤ N → ∃ q' l2 s2, gq (9 + N) q' ∧ q'.sz ≤ q.sz + 2 * N ∧ nl q' = nl q ∧ Pc 3 p s s2 ∧ (∃ o3 o4, l2 = [some (.obj p), some q'.toD, some (.int N), o3, o4]) ∧ ∀ j : Fl → Loc → Sto → Res RD,
      forK (.v 3) none (sden (callN T m) T.gc (chainB c)) (upTo 0 b) [some (.obj p), some q.toD, some (.int N), none, none] s1 j = j .nx l2 s2 := fun b hb => by
    obtain ⟨l2, s2, ⟨q', o3, o4, i1, i2, i3, i4, i7, i5, i6⟩, e⟩ := for_go (β := RD) (cf := callN T m) (g := T.gc) (tg := .v 3) (src := none) (u := chainB c)
      (I := fun rest l s' => ∃ q' o3 o4, l = [some (.obj p), some q'.toD, some (.int N), o3, o4] ∧ (rest.length ≤ N) ∧ gq (9 + N - rest.length) q' ∧ q'.sz + 2 * rest.length ≤ q.sz + 2 * N ∧ nl q' = nl q ∧ Pc 3 p s s' ∧ ∀ x ∈ rest, ∃ k : Int, x = .int k ∧ 0 ≤ k ∧ k < 100)
      (ds := upTo 0 b) (l := [some (.obj p), some q.toD, some (.int N), none, none]) (s := s1) ⟨q, none, none, rfl, by rw [up_len]; exact hb, by rw [up_len]; exact hq.mono (by omega), by rw [up_len]; omega, rfl, p1, fun x hx => by
        obtain ⟨k, h1, h2, h3⟩ := upTo_int _ hx
        exact ⟨k, h1, h2, by omega⟩⟩ (fun _ _ _ _ => trivial) (by
        rintro x rest l s' ⟨q', o3, o4, rfl, g1, g2, g3, g6, g4, g5⟩
        rw [List.length_cons] at g1 g2 g3
        obtain ⟨k, rfl, hk⟩ := g5 x (.head _)
        obtain ⟨q2, o4', s2, k1, k2, k5, k3, k4⟩ := chain_step E (m := m) (k := k) (v2 := .int N) (o4 := o4) (n := 9 + N - rest.length - 2) hk (by omega) (g4.at_ hp) (by rw [show 9 + N - rest.length - 2 + 1 = 9 + N - (rest.length + 1) by omega]; exact g2)
        refine ⟨_, s2, ⟨q2, some (.int k), o4', rfl, by omega, by rw [show 9 + N - rest.length = 9 + N - rest.length - 2 + 2 by omega]; exact k1, by omega, by rw [k5, g6], g4.trans k3, fun y hy => g5 y (.tail _ hy)⟩, fun F => ?_⟩
        simp -implicitDefEqProofs [k4])
    exact ⟨q', l2, s2, i3, by simpa using i4, i7, i5, ⟨o3, o4, i1⟩, e⟩
  have fin' : ∀ {q' : Q} {s2 : Sto}, gq (9 + N) q' → Pc 3 p s s2 → Nv.fin s.length (.d q'.toD) s2 = .ok (.d q'.toD) s2 := fun h1 h2 => (h2.at_ hp).fin h2.len (h1.lt)
  have c1 : CMul N (if w = 1 then 1 else 0) := by split <;> exact mul_const (by decide) (by decide)
  by_cases hw : w = 1
  · obtain ⟨q', l2, s2, i1, i2, i7, i3, ⟨o3, o4, rfl⟩, e2⟩ := main N (by omega)
    refine ⟨q', s2, i1, i2, i7, i3, ?_⟩
    have hf := fin' i1 i3
    rw [if_pos hw] at c1
    have hr : i1R .range s1 (.d (.int (N : Int))) = some ⟨upTo 0 N, none⟩ := range_ok (small_of (by omega) (by omega))
    rw [call_at hch rfl]
    unfold chainB at e2
    simp -implicitDefEqProofs [f_chain, b_chain, callK_of e1, hw, bin_mul c1, hr, e2, hf]
  · obtain ⟨q', l2, s2, i1, i2, i7, i3, ⟨o3, o4, rfl⟩, e2⟩ := main 0 (by omega)
    refine ⟨q', s2, i1, i2, i7, i3, ?_⟩
    have hf := fin' i1 i3
    rw [if_neg hw] at c1
    have hr : i1R .range s1 (.d (.int 0)) = some ⟨upTo 0 0, none⟩ := range_ok (by decide)
    rw [call_at hch rfl]
    unfold chainB at e2
    simp -implicitDefEqProofs [f_chain, b_chain, callK_of e1, hw, bin_mul c1, hr, e2, hf]
end
end Nv.S2

set_option Elab.async false
set_option maxRecDepth 100000
set_option autoImplicit false
set_option linter.all false
set_option maxHeartbeats 4000000
/-! S2m: is a thing a kind? a question? -/
namespace Nv.S2
open PySem PySem.Spec PyProof.Rows L2
def b_p_is_name (c g : Str → Nat) : Sm := (.cons (.ifs (.or (.nt (.isin (.var 0) .str)) (.or (.cmp .lt (.b1 .len (.var 0)) (.int 1)) (.cmp .gt (.b1 .len
    (.var 0)) (.gc (g "LONGEST_kinds"))))) (.cons (.ret (.bl false)) .nil) .nil) (.cons (.ret (.b1 .all (.cp (.cmp
    .inn (.var 1) (.gc (g "LETTERS_kinds"))) (.v 1) (.var 0) .nil [1]))) .nil))
def f_p_is_name (c g : Str → Nat) : Fn := ⟨"is_name", ["thing"], ["thing", "sign"], b_p_is_name c g⟩
def b_p_is_row (c g : Str → Nat) : Sm := (.cons (.ret (.and (.isin (.var 0) .tuple) (.and (.cmp .eq (.b1 .len (.var 0)) (.int 2)) (.and (.call (c
    "is_name") (.cons (.ix (.var 0) (.int 0)) .nil)) (.call (c "is_kind") (.cons (.ix (.var 0) (.int 1))
    .nil)))))) .nil)
def f_p_is_row (c g : Str → Nat) : Fn := ⟨"is_row", ["thing"], ["thing"], b_p_is_row c g⟩
def b_p_are_rows_kinds (c g : Str → Nat) : Sm := (.cons (.ifs (.or (.nt (.isin (.var 0) .tuple)) (.nt (.b1 .all (.cp (.frz (.call (c "is_row") (.cons (.var 3)
    .nil))) (.v 3) (.var 0) .nil [3])))) (.cons (.ret (.bl false)) .nil) .nil) (.cons (.ret (.b1 .all (.cp (.cmp
    .lt (.ix (.var 1) (.int 0)) (.ix (.var 2) (.int 0))) (.c (.v 1) (.c (.v 2) .n)) (.i2 .zip (.var 0) (.sl (.var
    0) (.int 1) .nil)) .nil [1, 2]))) .nil))
def f_p_are_rows_kinds (c g : Str → Nat) : Fn := ⟨"are_rows_kinds", ["thing"], ["thing", "one", "other", "row"], b_p_are_rows_kinds c g⟩
def b_p_is_kind (c g : Str → Nat) : Sm := (.cons (.ifs (.or (.nt (.isin (.var 0) .tuple)) (.or (.cmp .eq (.var 0) (.tup .nil)) (.nt (.isin (.ix (.var 0)
    (.int 0)) .str)))) (.cons (.ret (.bl false)) .nil) .nil) (.cons (.ifs (.cmp .inn (.ix (.var 0) (.int 0)) (.gc
    (g "SIMPLE"))) (.cons (.ret (.cmp .eq (.b1 .len (.var 0)) (.int 1))) .nil) .nil) (.cons (.ifs (.cmp .ne (.b1
    .len (.var 0)) (.int 2)) (.cons (.ret (.bl false)) .nil) .nil) (.cons (.ifs (.cmp .eq (.ix (.var 0) (.int 0))
    (.str "bag")) (.cons (.ret (.call (c "is_kind") (.cons (.ix (.var 0) (.int 1)) .nil))) .nil) .nil) (.cons
    (.ifs (.cmp .eq (.ix (.var 0) (.int 0)) (.str "record")) (.cons (.ret (.call (c "are_rows_kinds") (.cons (.ix
    (.var 0) (.int 1)) .nil))) .nil) .nil) (.cons (.ret (.and (.cmp .eq (.ix (.var 0) (.int 0)) (.str "choice"))
    (.and (.call (c "are_rows_kinds") (.cons (.ix (.var 0) (.int 1)) .nil)) (.and (.cmp .ne (.ix (.var 0) (.int
    1)) (.tup .nil)) (.call (c "is_flat") (.cons (.var 0) .nil)))))) .nil))))))
def f_p_is_kind (c g : Str → Nat) : Fn := ⟨"is_kind", ["thing"], ["thing"], b_p_is_kind c g⟩
def b_p_is_flat (c g : Str → Nat) : Sm := (.cons (.ifs (.cmp .eq (.ix (.var 0) (.int 0)) (.str "bag")) (.cons (.ret (.bl false)) .nil) .nil) (.cons
    (.ifs (.cmp .inn (.ix (.var 0) (.int 0)) (.gc (g "SIMPLE"))) (.cons (.ret (.bl true)) .nil) .nil) (.cons (.ret
    (.b1 .all (.cp (.frz (.call (c "is_flat") (.cons (.ix (.var 1) (.int 1)) .nil))) (.v 1) (.ix (.var 0) (.int
    1)) .nil [1]))) .nil)))
def f_p_is_flat (c g : Str → Nat) : Fn := ⟨"is_flat", ["kind"], ["kind", "row"], b_p_is_flat c g⟩
def b_p_is_whole (c g : Str → Nat) : Sm := (.cons (.ret (.and (.isin (.var 0) .int) (.nt (.isin (.var 0) .bool)))) .nil)
def f_p_is_whole (c g : Str → Nat) : Fn := ⟨"is_whole", ["thing"], ["thing"], b_p_is_whole c g⟩
def b_p_is_text (c g : Str → Nat) : Sm := (.cons (.ret (.and (.isin (.var 0) .str) (.b1 .all (.cp (.cmp .inn (.var 1) (.gc (g "SIGNS"))) (.v 1) (.var 0)
    .nil [1])))) .nil)
def f_p_is_text (c g : Str → Nat) : Fn := ⟨"is_text", ["thing"], ["thing", "sign"], b_p_is_text c g⟩
def b_p_is_value (c g : Str → Nat) : Sm := (.cons (.set (.v 2) (.ix (.var 0) (.int 0))) (.cons (.ifs (.cmp .eq (.var 2) (.str "number")) (.cons (.ret
    (.call (c "is_whole") (.cons (.var 1) .nil))) .nil) .nil) (.cons (.ifs (.cmp .eq (.var 2) (.str "text"))
    (.cons (.ret (.call (c "is_text") (.cons (.var 1) .nil))) .nil) .nil) (.cons (.ifs (.cmp .eq (.var 2) (.str
    "truth")) (.cons (.ret (.isin (.var 1) .bool)) .nil) .nil) (.cons (.ifs (.cmp .eq (.var 2) (.str "record"))
    (.cons (.ret (.call (c "is_record") (.cons (.var 0) (.cons (.var 1) .nil)))) .nil) .nil) (.cons (.ifs (.cmp
    .eq (.var 2) (.str "choice")) (.cons (.ret (.call (c "is_choice") (.cons (.var 0) (.cons (.var 1) .nil))))
    .nil) .nil) (.cons (.ret (.and (.call (c "is_paper") (.cons (.ix (.var 0) (.int 1)) (.cons (.var 1) .nil)))
    (.b1 .all (.cp (.cmp .gt (.ix (.var 3) (.int 1)) (.int 0)) (.v 3) (.var 1) .nil [3])))) .nil)))))))
def f_p_is_value (c g : Str → Nat) : Fn := ⟨"is_value", ["kind", "thing"], ["kind", "thing", "word", "row"], b_p_is_value c g⟩
def b_p_is_word (c g : Str → Nat) : Sm := (.cons (.ifs (.or (.nt (.isin (.var 0) .str)) (.nt (.cmp2 .le .le (.int 1) (.b1 .len (.var 0)) (.gc (g
    "LONGEST_questions"))))) (.cons (.ret (.bl false)) .nil) .nil) (.cons (.ret (.b1 .all (.cp (.cmp .inn (.var 1)
    (.gc (g "LETTERS_questions"))) (.v 1) (.var 0) .nil [1]))) .nil))
def f_p_is_word (c g : Str → Nat) : Fn := ⟨"is_word", ["thing"], ["thing", "sign"], b_p_is_word c g⟩
def b_p_are_rows_questions (c g : Str → Nat) : Sm := (.cons (.ifs (.nt (.isin (.var 0) .tuple)) (.cons (.ret (.bl false)) .nil) .nil) (.cons (.for_ (.c (.v 2) (.c
    (.v 3) .n)) (.i1 .enumerate (.var 0)) (.cons (.ifs (.or (.nt (.isin (.var 3) .tuple)) (.or (.cmp .ne (.b1 .len
    (.var 3)) (.var 1)) (.nt (.call (c "is_word") (.cons (.ix (.var 3) (.int 0)) .nil))))) (.cons (.ret (.bl
    false)) .nil) .nil) (.cons (.ifs (.and (.cmp .gt (.var 2) (.int 0)) (.cmp .ge (.ix (.ix (.var 0) (.bin .sub
    (.var 2) (.int 1))) (.int 0)) (.ix (.var 3) (.int 0)))) (.cons (.ret (.bl false)) .nil) .nil) .nil))) (.cons
    (.ret (.bl true)) .nil)))
def f_p_are_rows_questions (c g : Str → Nat) : Fn := ⟨"are_rows_questions", ["rows", "many"], ["rows", "many", "k", "row"], b_p_are_rows_questions c g⟩
def b_p_is_rowed (c g : Str → Nat) : Sm := (.cons (.ifs (.cmp .eq (.ix (.var 0) (.int 0)) (.str "record")) (.cons (.ret (.and (.cmp .eq (.b1 .len (.var
    0)) (.int 2)) (.call (c "are_rows_questions") (.cons (.ix (.var 0) (.int 1)) (.cons (.int 2) .nil))))) .nil)
    .nil) (.cons (.ifs (.or (.cmp .eq (.ix (.var 0) (.int 0)) (.str "field")) (.cmp .eq (.ix (.var 0) (.int 0))
    (.str "case"))) (.cons (.ret (.and (.cmp .eq (.b1 .len (.var 0)) (.int 3)) (.call (c "is_word") (.cons (.ix
    (.var 0) (.int 2)) .nil)))) .nil) .nil) (.cons (.ifs (.cmp .eq (.ix (.var 0) (.int 0)) (.str "tag")) (.cons
    (.ret (.and (.cmp .eq (.b1 .len (.var 0)) (.int 4)) (.and (.call (c "is_kind") (.cons (.ix (.var 0) (.int 1))
    .nil)) (.and (.cmp .eq (.ix (.ix (.var 0) (.int 1)) (.int 0)) (.str "choice")) (.call (c "is_word") (.cons
    (.ix (.var 0) (.int 2)) .nil)))))) .nil) .nil) (.cons (.ifs (.or (.cmp .ne (.ix (.var 0) (.int 0)) (.str
    "match")) (.or (.cmp .ne (.b1 .len (.var 0)) (.int 3)) (.nt (.call (c "are_rows_questions") (.cons (.ix (.var
    0) (.int 2)) (.cons (.int 3) .nil)))))) (.cons (.ret (.bl false)) .nil) .nil) (.cons (.ret (.and (.cmp .ne
    (.ix (.var 0) (.int 2)) (.tup .nil)) (.b1 .all (.cp (.frz (.call (c "is_word") (.cons (.ix (.var 1) (.int 1))
    .nil))) (.v 1) (.ix (.var 0) (.int 2)) .nil [1])))) .nil)))))
def f_p_is_rowed (c g : Str → Nat) : Fn := ⟨"is_rowed", ["thing"], ["thing", "row"], b_p_is_rowed c g⟩
def b_p_is_made (c g : Str → Nat) : Sm := (.cons (.ifs (.cmp .inn (.ix (.var 0) (.int 0)) (.gc (g "VALUES"))) (.cons (.ret (.and (.cmp .eq (.b1 .len
    (.var 0)) (.int 2)) (.call (c "is_value") (.cons (.tup (.cons (.ix (.var 0) (.int 0)) .nil)) (.cons (.ix (.var
    0) (.int 1)) .nil))))) .nil) .nil) (.cons (.ifs (.cmp .eq (.ix (.var 0) (.int 0)) (.str "name")) (.cons (.ret
    (.and (.cmp .eq (.b1 .len (.var 0)) (.int 2)) (.call (c "is_word") (.cons (.ix (.var 0) (.int 1)) .nil))))
    .nil) .nil) (.cons (.ifs (.cmp .eq (.ix (.var 0) (.int 0)) (.str "empty")) (.cons (.ret (.and (.cmp .eq (.b1
    .len (.var 0)) (.int 2)) (.call (c "is_kind") (.cons (.ix (.var 0) (.int 1)) .nil)))) .nil) .nil) (.cons (.ifs
    (.cmp .inn (.ix (.var 0) (.int 0)) (.gc (g "BINDING"))) (.cons (.ret (.and (.cmp .eq (.b1 .len (.var 0)) (.int
    4)) (.call (c "is_word") (.cons (.ix (.var 0) (.int 1)) .nil)))) .nil) .nil) (.cons (.ifs (.kin 0 [("if", 3),
    ("one", 1), ("plus", 2), ("unlike", 1), ("add", 2), ("times", 2), ("alike", 2), ("below", 2), ("not", 1),
    ("both", 2)] (.ix (.var 0) (.int 0))) (.cons (.ret (.cmp .eq (.b1 .len (.var 0)) (.bin .add (.int 1) (.kix 0
    [("if", 3), ("one", 1), ("plus", 2), ("unlike", 1), ("add", 2), ("times", 2), ("alike", 2), ("below", 2),
    ("not", 1), ("both", 2)] (.ix (.var 0) (.int 0)))))) .nil) .nil) (.cons (.ret (.call (c "is_rowed") (.cons
    (.var 0) .nil))) .nil))))))
def f_p_is_made (c g : Str → Nat) : Fn := ⟨"is_made", ["thing"], ["thing"], b_p_is_made c g⟩
def b_p_is_question (c g : Str → Nat) : Sm := (.cons (.ifs (.or (.nt (.isin (.var 0) .tuple)) (.or (.cmp .eq (.var 0) (.tup .nil)) (.nt (.isin (.ix (.var 0)
    (.int 0)) .str)))) (.cons (.ret (.bl false)) .nil) .nil) (.cons (.ret (.and (.call (c "is_made") (.cons (.var
    0) .nil)) (.b1 .all (.cp (.frz (.call (c "is_question") (.cons (.var 1) .nil))) (.v 1) (.call (c "parts")
    (.cons (.var 0) .nil)) .nil [1])))) .nil))
def f_p_is_question (c g : Str → Nat) : Fn := ⟨"is_question", ["thing"], ["thing", "part"], b_p_is_question c g⟩
end Nv.S2
namespace Nv
open PySem PySem.Spec PyProof.Rows L2
/-! ### signs in a text -/
theorem in_sign (c : Nat) (y : Str) : strIn ⟨#[c]⟩ y = decide (c ∈ y.cps.toList) := by
  have h := SX.in_one y.cps.toList c
  have e : (⟨y.cps.toList.toArray⟩ : Str) = y := by cases y; simp
  rw [show SX.S y.cps.toList = y from e] at h
  exact h
theorem mem_letters (c : Nat) : c ∈ ("abcdefghijklmnopqrstuvwxyz" : Str).cps.toList ↔ letter c := by
  rw [show ("abcdefghijklmnopqrstuvwxyz" : Str).cps.toList = List.range' 97 26 by decide +kernel, List.mem_range'_1]
  unfold letter; omega
/-- the signs that may stand in texts -/
def signT (n : Nat) : Bool := decide (32 ≤ n) && decide (n ≤ 126) && decide (n ≠ 37)
theorem mem_signs (c : Nat) : c ∈ ("\x20!\"#$&'()*+,-./0123456789:;<=>?@ABCDEFGHIJKLMNOPQRSTUVWXYZ[\\]^_`abcdefghijklmnopqrstuvwxyz{|}~" : Str).cps.toList ↔ signT c = true := by
  rw [show ("\x20!\"#$&'()*+,-./0123456789:;<=>?@ABCDEFGHIJKLMNOPQRSTUVWXYZ[\\]^_`abcdefghijklmnopqrstuvwxyz{|}~" : Str).cps.toList = (List.range' 32 95).filter (fun n => decide (n ≠ 37)) by decide +kernel, List.mem_filter, List.mem_range'_1]
  unfold signT; simp; omega
/-! ### data that may be handed to the tests -/
mutual
def okD : D → Bool
  | .str x => PyData.canLay0 (.str x) && decide (x.length ≤ 1000)
  | .tup xs => decide (xs.length ≤ 1000) && okDs xs
  | .lf xs => decide (xs.length ≤ 1000) && okDs xs
  | .ld ks vs => okDs ks && okDs vs
  | .obj _ => false
  | _ => true
def okDs : List D → Bool
  | [] => true
  | x :: r => okD x && okDs r
end
mutual
def dpt : D → Nat
  | .tup xs => dpts xs + 1
  | _ => 0
def dpts : List D → Nat
  | [] => 0
  | x :: r => max (dpt x) (dpts r)
end
theorem okDs_mem : ∀ {xs : List D} {x : D}, okDs xs = true → x ∈ xs → okD x = true
  | _ :: _, _, h, .head _ => by unfold okDs at h; exact (and2 h).1
  | _ :: _, _, h, .tail _ m => by unfold okDs at h; exact okDs_mem (and2 h).2 m
theorem dpts_mem : ∀ {xs : List D} {x : D}, x ∈ xs → dpt x ≤ dpts xs
  | _ :: _, _, .head _ => by unfold dpts; exact Nat.le_max_left _ _
  | _ :: _, _, .tail _ m => by unfold dpts; exact Nat.le_trans (dpts_mem m) (Nat.le_max_right _ _)
mutual
theorem okD_lt {n : Nat} : ∀ {d : D}, okD d = true → d.lt n = true
  | .non, _ => rfl
  | .bl _, _ => rfl
  | .int _, _ => rfl
  | .str _, _ => rfl
  | .tup xs, h => by unfold okD at h; unfold D.lt; exact okDs_lt (and2 h).2
  | .lf xs, h => by unfold okD at h; unfold D.lt; exact okDs_lt (and2 h).2
  | .ld ks vs, h => by unfold okD at h; unfold D.lt; rw [okDs_lt (and2 h).1, okDs_lt (and2 h).2]; rfl
  | .obj _, h => by unfold okD at h; cases h
theorem okDs_lt {n : Nat} : ∀ {ds : List D}, okDs ds = true → D.ltAll n ds = true
  | [], _ => rfl
  | x :: r, h => by unfold okDs at h; unfold D.ltAll; rw [okD_lt (and2 h).1, okDs_lt (and2 h).2]; rfl
end
def Od (n : Nat) (d : D) : Prop := okD d = true ∧ dpt d ≤ n
theorem Od.mono {m n : Nat} {d : D} (h : Od m d) (l : m ≤ n) : Od n d := ⟨h.1, Nat.le_trans h.2 l⟩
theorem od_str {n : Nat} {x : Str} (h : lv x) (h2 : x.length ≤ 1000) : Od n (.str x) := ⟨by unfold okD; rw [show PyData.canLay0 (.str x) = true from h, decide_eq_true h2]; rfl, Nat.zero_le _⟩
theorem od_all {n : Nat} : ∀ {ds : List D}, (∀ d ∈ ds, Od n d) → okDs ds = true ∧ dpts ds ≤ n
  | [], _ => ⟨rfl, Nat.zero_le _⟩
  | d :: r, h => by
    obtain ⟨h1, h2⟩ := od_all fun x hx => h x (.tail _ hx)
    obtain ⟨h3, h4⟩ := h d (.head _)
    refine ⟨by unfold okDs; rw [h1, h3]; rfl, by unfold dpts; exact Nat.max_le.mpr ⟨h4, h2⟩⟩
theorem od_tup {n : Nat} {ds : List D} (h : ∀ d ∈ ds, Od n d) (hl : ds.length ≤ 1000) : Od (n + 1) (.tup ds) := by
  obtain ⟨h1, h2⟩ := od_all h
  exact ⟨by unfold okD; rw [h1, decide_eq_true hl]; rfl, by unfold dpt; omega⟩
theorem od_lf {n : Nat} {ds : List D} (h : ∀ d ∈ ds, Od n d) (hl : ds.length ≤ 1000) : Od n (.lf ds) := by
  obtain ⟨h1, h2⟩ := od_all h
  exact ⟨by unfold okD; rw [h1, decide_eq_true hl]; rfl, Nat.zero_le _⟩
theorem Od.kid {n : Nat} {ds : List D} (h : Od (n + 1) (.tup ds)) {d : D} (m : d ∈ ds) : Od n d := by
  obtain ⟨h1, h2⟩ := h
  unfold okD at h1
  unfold dpt at h2
  exact ⟨okDs_mem (and2 h1).2 m, by have := dpts_mem m; omega⟩
theorem Od.len {n : Nat} {ds : List D} (h : Od n (.tup ds)) : ds.length ≤ 1000 := by
  have h1 := h.1
  unfold okD at h1
  exact of_decide_eq_true (and2 h1).1
theorem Od.lv {n : Nat} {x : Str} (h : Od n (.str x)) : lv x := by
  have h1 := h.1
  unfold okD at h1
  exact (and2 h1).1
theorem Od.strlen {n : Nat} {x : Str} (h : Od n (.str x)) : x.length ≤ 1000 := by
  have h1 := h.1
  unfold okD at h1
  exact of_decide_eq_true (and2 h1).2
theorem Od.lt {n m : Nat} {d : D} (h : Od n d) : d.lt m = true := okD_lt h.1
/-! ### a tuple against () -/
theorem pyWs_len {g : Nat → Option PyData} : ∀ {xs : List D} {ps : List PyData}, pyWs g xs = some ps → ps.isEmpty = xs.isEmpty
  | [], _, h => by unfold pyWs at h; cases h; rfl
  | x :: r, _, h => by
    unfold pyWs at h
    obtain ⟨p, _, h2⟩ := Option.bind_eq_some_iff.mp h
    obtain ⟨q, _, rfl⟩ := Option.map_eq_some_iff.mp h2
    rfl
theorem eq_unit {s : Sto} {xs : List D} : eqR s (.d (.tup xs)) (.d (.tup [])) = some xs.isEmpty := by
  unfold eqR
  have e0 : pyR s (.d (.tup [])) = some (.tuple []) := by show pyN s 3 (.tup []) = _; unfold pyN pyW; rfl
  rw [e0]
  cases e : pyR s (.d (.tup xs)) with
  | none => rfl
  | some p =>
    show (if _ ∧ _ then some _ else some xs.isEmpty) = _
    split
    · have e : pyN s 3 (.tup xs) = some p := e
      unfold pyN pyW at e
      obtain ⟨ps, e1, rfl⟩ := Option.map_eq_some_iff.mp e
      rw [← pyWs_len e1]
      cases ps with
      | nil => rfl
      | cons a b => rfl
    · rfl
@[simp] theorem isin_ld {s : Sto} {t : Ty} {ks vs : List D} : isinR s t (.d (.ld ks vs)) = some (decide (t = .dict)) := rfl
@[simp] theorem enum_tup {s : Sto} {xs : List D} : i1R .enumerate s (.d (.tup xs)) = some ⟨numbered 0 xs, none⟩ := rfl
theorem bls_map {α : Type} {f : α → Bool} : ∀ xs : List α, blsOf (xs.map fun x => D.bl (f x)) = some (xs.map f)
  | [] => rfl
  | x :: r => by rw [List.map_cons]; show ((blsOf (r.map _)).map _) = _; rw [bls_map r]; rfl
theorem all_map {s : Sto} {α : Type} {f : α → Bool} {xs : List α} : b1R .all s (.l (xs.map fun x => D.bl (f x))) = some (.d (.bl (xs.all f))) := by
  show ((asL s (.l (xs.map fun x => D.bl (f x)))).bind blsOf).map _ = _
  rw [asL_l]
  show ((blsOf _).map _) = _
  rw [bls_map, Option.map_some, List.all_map]; rfl
/-! ### what the tests tell -/
instance (n : Nat) : Decidable (letter n) := inferInstance
def nameB : D → Bool
  | .str x => decide (1 ≤ x.length) && decide (x.length ≤ 8) && x.cps.toList.all fun c => decide (letter c)
  | _ => false
def headS : D → Str
  | .tup (.str x :: _) => x
  | _ => ""
def adjL : List D → List Bool
  | a :: b :: r => decide ((headS a).cps.toList < (headS b).cps.toList) :: adjL (b :: r)
  | _ => []
def adjB (l : List D) : Bool := (adjL l).all id
def krowB (f : D → Bool) : D → Bool
  | .tup [a, k] => nameB a && f k
  | _ => false
def krowsB (f : D → Bool) : D → Bool
  | .tup rs => rs.all (krowB f) && adjB rs
  | _ => false
abbrev simpleW : List Str := ["number", "text", "truth"]
def flatRow (f : D → Bool) : D → Bool
  | .tup (_ :: k :: _) => f k
  | _ => false
def flatR (f : D → Bool) : List D → Bool
  | .tup rs :: _ => rs.all (flatRow f)
  | _ => false
def flatS (f : D → Bool) : D → Bool
  | .tup (.str w :: r) => if w = "bag" then false else if w ∈ simpleW then true else flatR f r
  | _ => false
def flatB : Nat → D → Bool
  | 0, _ => false
  | n + 1, d => flatS (flatB n) d
def unitB : D → Bool
  | .tup [] => true
  | _ => false
def kindR (f : D → Bool) (fl : Bool) (w : Str) : List D → Bool
  | [x] => if w = "bag" then f x else if w = "record" then krowsB f x else decide (w = "choice") && (krowsB f x && (!unitB x && fl))
  | _ => false
def kindS (f : D → Bool) (fl : Bool) : D → Bool
  | .tup (.str w :: r) => if w ∈ simpleW then r.isEmpty else kindR f fl w r
  | _ => false
def kindB : Nat → D → Bool
  | 0, _ => false
  | n + 1, d => kindS (kindB n) (flatB (n + 1) d) d
theorem kindB_eq {n : Nat} {w : Str} {r : List D} : kindB (n + 1) (.tup (.str w :: r)) = if w ∈ simpleW then r.isEmpty else kindR (kindB n) (flatB (n + 1) (.tup (.str w :: r))) w r := rfl
theorem flatB_eq {n : Nat} {w : Str} {r : List D} : flatB (n + 1) (.tup (.str w :: r)) = if w = "bag" then false else if w ∈ simpleW then true else flatR (flatB n) r := rfl
def valB (w : Str) : D → Bool
  | .int _ => decide (w = "number")
  | .str x => decide (w = "text") && x.cps.toList.all signT
  | .bl _ => decide (w = "truth")
  | _ => false
def qrowB (k : Int) : D → Bool
  | .tup (x :: r) => decide (((x :: r).length : Int) = k) && nameB x
  | _ => false
def qrowsB (k : Int) : D → Bool
  | .tup rs => rs.all (qrowB k) && adjB rs
  | _ => false
abbrev plainL : List (Str × Int) := [("if", 3), ("one", 1), ("plus", 2), ("unlike", 1), ("add", 2), ("times", 2), ("alike", 2), ("below", 2), ("not", 1), ("both", 2)]
def sndName : D → Bool
  | .tup (_ :: x :: _) => nameB x
  | _ => false
def itemsD : D → List D
  | .tup rs => rs
  | _ => []
def l1 (f : D → Bool) : List D → Bool
  | [x] => f x
  | _ => false
def l2 (f : D → D → Bool) : List D → Bool
  | [x, y] => f x y
  | _ => false
def l3 (f : D → D → D → Bool) : List D → Bool
  | [x, y, z] => f x y z
  | _ => false
def rowedB (n : Nat) (w : Str) (r : List D) : Bool :=
  if w = "record" then l1 (qrowsB 2) r
  else if w = "field" ∨ w = "case" then l2 (fun _ x => nameB x) r
  else if w = "tag" then l3 (fun k x _ => kindB n k && (decide (headS k = "choice") && nameB x)) r
  else if w = "match" then l2 (fun _ rs => qrowsB 3 rs && (!unitB rs && (itemsD rs).all sndName)) r
  else false
def madeB (n : Nat) (w : Str) (r : List D) : Bool :=
  if w ∈ simpleW then l1 (valB w) r
  else if w = "name" then l1 nameB r
  else if w = "empty" then l1 (kindB n) r
  else if w ∈ S2.bindW then l3 (fun x _ _ => nameB x) r
  else match plainL.lookup w with
    | some i => decide ((r.length : Int) = i)
    | none => rowedB n w r
def sndD : D → D
  | .tup (_ :: x :: _) => x
  | _ => .non
def thdD : D → D
  | .tup (_ :: _ :: x :: _) => x
  | _ => .non
def partsB (w : Str) (r : List D) : List D :=
  if w ∈ S2.leafW then [] else if w = "record" then (itemsD (r.headD .non)).map sndD
  else if w = "match" then r.headD .non :: (itemsD (r.getD 1 .non)).map thdD
  else if w = "field" ∨ w = "case" then [r.headD .non]
  else if w = "tag" then [r.getD 2 .non]
  else if w ∈ S2.bindW then [r.getD 1 .non, r.getD 2 .non]
  else r
def questS (n : Nat) (f : D → Bool) : D → Bool
  | .tup (.str w :: r) => madeB n w r && (partsB w r).all f
  | _ => false
def questB : Nat → D → Bool
  | 0, _ => false
  | n + 1, d => questS n (questB n) d
end Nv
namespace Nv.S2
open PySem PySem.Spec PyProof.Rows L2
variable {T : Tab} {c g : Str → Nat}
structure EN (T : Tab) (c g : Str → Nat) : Prop where
  is_name : T.fns[c "is_name"]? = some (f_p_is_name c g)
  is_row : T.fns[c "is_row"]? = some (f_p_is_row c g)
  are_rows : T.fns[c "are_rows_kinds"]? = some (f_p_are_rows_kinds c g)
  is_kind : T.fns[c "is_kind"]? = some (f_p_is_kind c g)
  is_flat : T.fns[c "is_flat"]? = some (f_p_is_flat c g)
  simple : T.gc (g "SIMPLE") = some (.tup [.str "number", .str "text", .str "truth"])
  letters : T.gc (g "LETTERS_kinds") = some (.str "abcdefghijklmnopqrstuvwxyz")
  longest : T.gc (g "LONGEST_kinds") = some (.int 8)
theorem fin_b {s : Sto} {b : Bool} (hs : Clo s) : Nv.fin s.length (.d (.bl b)) s = .ok (.d (.bl b)) s := fin_pure hs rfl
/-- each sign of a text among those of another -/
theorem cp_signs {β : Type} {cf : Nat → List D → Sto → Res RD} {gc : Nat → Option D} {j : Nat} {L x : Str} {s : Sto} {d : D} (hj : gc j = some (.str L)) (hx : x.length ≤ 1000) (k : List D → Sto → Res β) :
    cpK (.v 1) none (den cf gc .nil).b (den cf gc (.cmp .inn (.var 1) (.gc j))).v (wipeL [some d, none] [1]) (signsD x) [] s k = k (x.cps.toList.map fun ch => D.bl (decide (ch ∈ L.cps.toList))) s := by
  have hl : (signsD x).length ≤ 1000 := by unfold signsD; rw [List.length_map, ← str_len]; exact hx
  rw [cp_all (src := none) (ys := x.cps.toList.map fun ch => D.bl (decide (ch ∈ L.cps.toList))) trivial (by rw [sizeLine_eq, List.length_nil]; omega)]
  · rfl
  · unfold signsD
    generalize x.cps.toList = l
    induction l with
    | nil => exact .nil
    | cons ch r ih =>
      rw [List.map_cons, List.map_cons]
      refine .cons (fun K1 K2 => ?_) ih
      have e : inR s (.d (.str ⟨#[ch]⟩)) (.d (.str L)) = some (decide (ch ∈ L.cps.toList)) := by rw [← in_sign]; rfl
      simp -implicitDefEqProofs [wipeL, hj, e]
theorem letters_all (x : Str) : (x.cps.toList.all fun ch => decide (ch ∈ ("abcdefghijklmnopqrstuvwxyz" : Str).cps.toList)) = x.cps.toList.all fun ch => decide (letter ch) := by
  congr 1
  funext ch
  simp only [mem_letters]
theorem signs_all (x : Str) : (x.cps.toList.all fun ch => decide (ch ∈ ("\x20!\"#$&'()*+,-./0123456789:;<=>?@ABCDEFGHIJKLMNOPQRSTUVWXYZ[\\]^_`abcdefghijklmnopqrstuvwxyz{|}~" : Str).cps.toList)) = x.cps.toList.all signT := by
  congr 1
  funext ch
  rw [Bool.eq_iff_iff, decide_eq_true_iff]
  exact mem_signs ch
@[simp ↓] theorem its_str {s : Sto} {x : Str} : itsR s (.d (.str x)) = some ⟨signsD x, none⟩ := rfl
theorem t_is_name (E : EN T c g) {m n : Nat} {s : Sto} {d : D} (hm : 1 ≤ m) (hs : Clo s) (h : Od n d) : callN T m (c "is_name") [d] s = .ok (.d (.bl (nameB d))) s := by
  obtain ⟨m, rfl⟩ : ∃ k, m = k + 1 := ⟨m - 1, by omega⟩
  rw [call_at E.is_name rfl]
  have hf := fun b => fin_b (b := b) hs
  cases d with
  | str x =>
    have hl := h.strlen
    have e1 := len_str (s := s) (x := x) (by rw [sizeLine_eq]; omega)
    have e2 := fun K : List D → Sto → Res RD => cp_signs (cf := callN T m) (s := s) (d := .str x) E.letters hl K
    have e3 := all_map (s := s) (f := fun ch => decide (ch ∈ ("abcdefghijklmnopqrstuvwxyz" : Str).cps.toList)) (xs := x.cps.toList)
    rw [letters_all] at e3
    generalize (x.cps.toList.map fun ch => D.bl (decide (ch ∈ ("abcdefghijklmnopqrstuvwxyz" : Str).cps.toList))) = ys at e2 e3
    by_cases h1 : x.length < 1
    · have h2 : ¬ (1 ≤ x.length) := by omega
      have h3 : ((x.length : Nat) : Int) < 1 := by omega
      simp -implicitDefEqProofs [f_p_is_name, b_p_is_name, nameB, e1, h2, h3, hf]
    · by_cases h4 : 8 < x.length
      · have h2 : 1 ≤ x.length := by omega
        have h3 : ¬ ((x.length : Nat) : Int) < 1 := by omega
        have h5 : (8 : Int) < (x.length : Nat) := by omega
        have h6 : ¬ (x.length ≤ 8) := by omega
        simp -implicitDefEqProofs [f_p_is_name, b_p_is_name, nameB, e1, E.longest, h2, h3, h5, h6, hf]
      · have h2 : 1 ≤ x.length := by omega
        have h3 : ¬ ((x.length : Nat) : Int) < 1 := by omega
        have h5 : ¬ (8 : Int) < (x.length : Nat) := by omega
        have h6 : x.length ≤ 8 := by omega
        simp -implicitDefEqProofs [f_p_is_name, b_p_is_name, nameB, e1, E.longest, h2, h3, h5, h6, e2, e3, hf]
  | obj i => have := h.1; unfold okD at this; cases this
  | _ => simp -implicitDefEqProofs [f_p_is_name, b_p_is_name, nameB, hf]
end Nv.S2

set_option Elab.async false
set_option maxRecDepth 100000
set_option autoImplicit false
set_option linter.all false
set_option maxHeartbeats 4000000
/-! S2n: is a thing a kind? -/
namespace Nv.S2
open PySem PySem.Spec PyProof.Rows L2
variable {T : Tab} {c g : Str → Nat}
theorem lv_simple : ∀ w ∈ simpleW, lv w := by unfold lv; decide +kernel
theorem in_simple {s : Sto} {w : Str} (hw : lv w) : inR s (.d (.str w)) (.d (.tup [.str "number", .str "text", .str "truth"])) = some (decide (w ∈ simpleW)) := (in_strs (ws := simpleW) hw lv_simple).1
theorem eq_wd {s : Sto} {w y : Str} (hw : lv w) (hy : lv y) : eqR s (.d (.str w)) (.d (.str y)) = some (decide (w = y)) := eq_str hw hy
theorem lv_bag : lv "bag" := by unfold lv; decide +kernel
theorem lv_rcd : lv "record" := by unfold lv; decide +kernel
theorem lv_cho : lv "choice" := by unfold lv; decide +kernel
/-- the contract of is_kind at a depth -/
def KC (T : Tab) (c : Str → Nat) (n : Nat) : Prop := ∀ (m : Nat) (s : Sto) (d : D), 3 * n + 2 ≤ m → Clo s → Od n d → callN T m (c "is_kind") [d] s = .ok (.d (.bl (kindB n d))) s
theorem t_is_row (E : EN T c g) {m n : Nat} {s : Sto} {d : D} (ih : KC T c n) (hm : 3 * n + 3 ≤ m) (hs : Clo s) (h : Od (n + 1) d) : callN T m (c "is_row") [d] s = .ok (.d (.bl (krowB (kindB n) d))) s := by
  obtain ⟨m, rfl⟩ : ∃ k, m = k + 1 := ⟨m - 1, by omega⟩
  rw [call_at E.is_row rfl]
  have hf := fun b => fin_b (b := b) hs
  cases d with
  | tup xs =>
    match xs, h with
    | [], h => simp -implicitDefEqProofs [f_p_is_row, b_p_is_row, krowB, hf]
    | [a], h => simp -implicitDefEqProofs [f_p_is_row, b_p_is_row, krowB, hf]
    | [a, k], h =>
      have e1 := t_is_name E (m := m) (n := n) (by omega) hs (h.kid (.head _))
      have e2 := ih m s k (by omega) hs (h.kid (.tail _ (.head _)))
      cases hb : nameB a with
      | false => rw [hb] at e1; simp -implicitDefEqProofs [f_p_is_row, b_p_is_row, krowB, callK_of e1, hb, hf]
      | true => rw [hb] at e1; simp -implicitDefEqProofs [f_p_is_row, b_p_is_row, krowB, callK_of e1, callK_of e2, hb, hf]
    | a :: k :: e :: r, h =>
      have q : ¬ ((r.length : Int) + 1 + 1 + 1 = 2) := by omega
      simp -implicitDefEqProofs [f_p_is_row, b_p_is_row, krowB, q, hf]
  | obj i => have := h.1; unfold okD at this; cases this
  | _ => simp -implicitDefEqProofs [f_p_is_row, b_p_is_row, krowB, hf]
theorem headed {f : D → Bool} {d : D} (h : krowB f d = true) : ∃ a k, d = .tup [.str a, k] ∧ headS d = a := by
  unfold krowB at h
  split at h
  · rename_i x k
    have h1 := (and2 h).1
    unfold nameB at h1
    split at h1
    · exact ⟨_, _, rfl, rfl⟩
    · cases h1
  · cases h
theorem adj_all {R : D → D → Prop} {P : D → Prop} (hR : ∀ a b, P a → P b → R (.tup [a, b]) (.bl (decide ((headS a).cps.toList < (headS b).cps.toList)))) : ∀ {rs : List D}, (∀ x ∈ rs, P x) → All2 R (zipD rs (rs.drop 1)) ((adjL rs).map D.bl)
  | [], _ => .nil
  | [a], _ => .nil
  | a :: b :: r, h => .cons (hR a b (h a (.head _)) (h b (.tail _ (.head _)))) (adj_all hR (rs := b :: r) fun x hx => h x (.tail _ hx))
theorem bls_id : ∀ xs : List Bool, blsOf (xs.map D.bl) = some xs
  | [] => rfl
  | x :: r => by rw [List.map_cons]; show ((blsOf (r.map _)).map _) = _; rw [bls_id r]; rfl
theorem all_id {s : Sto} {xs : List Bool} : b1R .all s (.l (xs.map D.bl)) = some (.d (.bl (xs.all id))) := by
  show ((blsOf (xs.map D.bl)).map _) = _
  rw [bls_id]; rfl
theorem adj_len : ∀ rs : List D, (zipD rs (rs.drop 1)).length ≤ rs.length
  | [] => Nat.le_refl _
  | [a] => by simp [zipD]
  | a :: b :: r => by
    have := adj_len (b :: r)
    simp only [List.drop_succ_cons, List.drop_zero] at this ⊢
    simp only [zipD, List.length_cons] at this ⊢
    omega
theorem t_are_rows (E : EN T c g) {m n : Nat} {s : Sto} {d : D} (ih : KC T c n) (hm : 3 * n + 4 ≤ m) (hs : Clo s) (h : Od (n + 2) d) : callN T m (c "are_rows_kinds") [d] s = .ok (.d (.bl (krowsB (kindB n) d))) s := by
  obtain ⟨m, rfl⟩ : ∃ k, m = k + 1 := ⟨m - 1, by omega⟩
  rw [call_at E.are_rows rfl]
  have hf := fun b => fin_b (b := b) hs
  cases d with
  | tup rs =>
    have hl := h.len
    have e1 : ∀ K : List D → Sto → Res RD, cpK (.v 3) none (den (callN T m) T.gc .nil).b (den (callN T m) T.gc (.frz (.call (c "is_row") (.cons (.var 3) .nil)))).v (wipeL [some (.tup rs), none, none, none] [3]) rs [] s K = K (rs.map fun x => D.bl (krowB (kindB n) x)) s := fun K => by
      rw [cp_all (src := none) (ys := rs.map fun x => D.bl (krowB (kindB n) x)) trivial (by rw [sizeLine_eq, List.length_nil]; omega)]
      · rfl
      · refine All2.map fun x hx K1 K2 => ?_
        have e2 := t_is_row E ih (m := m) (by omega) hs (h.kid hx)
        simp -implicitDefEqProofs [wipeL, callK_of e2]
    have e2 := all_map (s := s) (f := krowB (kindB n)) (xs := rs)
    generalize (rs.map fun x => D.bl (krowB (kindB n) x)) = ys at e1 e2
    cases hb : rs.all (krowB (kindB n)) with
    | false =>
      rw [hb] at e2
      simp -implicitDefEqProofs [f_p_are_rows_kinds, b_p_are_rows_kinds, krowsB, e1, e2, hb, hf]
    | true =>
      rw [hb] at e2
      have hr := List.all_eq_true.mp hb
      have e3 : ∀ K : List D → Sto → Res RD, cpK (.c (.v 1) (.c (.v 2) .n)) none (den (callN T m) T.gc .nil).b (den (callN T m) T.gc (.cmp .lt (.ix (.var 1) (.int 0)) (.ix (.var 2) (.int 0)))).v (wipeL [some (.tup rs), none, none, none] [1, 2]) (zipD rs (rs.drop 1)) [] s K = K ((adjL rs).map D.bl) s := fun K => by
        rw [cp_all (src := none) (ys := (adjL rs).map D.bl) trivial (by have := adj_len rs; rw [sizeLine_eq, List.length_nil]; omega)]
        · rfl
        · refine adj_all (P := fun x => krowB (kindB n) x = true) (fun a b ha hb K1 K2 => ?_) hr
          obtain ⟨a1, a2, rfl, a3⟩ := headed ha
          obtain ⟨b1, b2, rfl, b3⟩ := headed hb
          have e4 : cmpR .lt s (.d (.str a1)) (.d (.str b1)) = some (decide (a1.cps.toList < b1.cps.toList)) := rfl
          simp -implicitDefEqProofs [wipeL, e4, headS]
      have e4 := all_id (s := s) (xs := adjL rs)
      simp only [List.drop_one] at e3
      generalize ((adjL rs).map D.bl) = zs at e3 e4
      simp -implicitDefEqProofs [f_p_are_rows_kinds, b_p_are_rows_kinds, krowsB, adjB, e1, e2, e3, e4, hb, hf]
  | obj i => have := h.1; unfold okD at this; cases this
  | _ => simp -implicitDefEqProofs [f_p_are_rows_kinds, b_p_are_rows_kinds, krowsB, hf]
/-- rows of kinds, by a test of kinds -/
theorem krows_of {f : D → Bool} {x : D} (h : krowsB f x = true) : ∃ rs, x = .tup rs ∧ ∀ r ∈ rs, ∃ a k, r = .tup [.str a, k] ∧ f k = true := by
  unfold krowsB at h
  split at h
  · rename_i rs
    refine ⟨rs, rfl, fun r hr => ?_⟩
    have h1 := List.all_eq_true.mp (and2 h).1 r hr
    obtain ⟨a, k, rfl, _⟩ := headed h1
    unfold krowB at h1
    exact ⟨a, k, rfl, (and2 h1).2⟩
  · cases h
/-- is_flat of a thing whose rows, if it has any, are rows of kinds -/
def FC (T : Tab) (c : Str → Nat) (n : Nat) : Prop := ∀ (m : Nat) (s : Sto) (d : D), n ≤ m → Clo s → Od n d → kindB n d = true → callN T m (c "is_flat") [d] s = .ok (.d (.bl (flatB n d))) s
theorem flat_step (E : EN T c g) {n m : Nat} {s : Sto} {w : Str} {x : D} (ih : FC T c n) (hm : n + 1 ≤ m) (hs : Clo s) (h : Od (n + 1) (.tup [.str w, x])) (hw : w ∉ simpleW) (hb : w ≠ "bag") (hr : krowsB (kindB n) x = true) : callN T m (c "is_flat") [.tup [.str w, x]] s = .ok (.d (.bl (flatB (n + 1) (.tup [.str w, x])))) s := by
  obtain ⟨m, rfl⟩ : ∃ k, m = k + 1 := ⟨m - 1, by omega⟩
  rw [call_at E.is_flat rfl]
  have hf := fun b => fin_b (b := b) hs
  have lw := (h.kid (.head _)).lv
  have e1 := eq_wd (s := s) lw lv_bag
  rw [decide_eq_false hb] at e1
  have e2 := in_simple (s := s) lw
  rw [decide_eq_false hw] at e2
  obtain ⟨rs, rfl, hrs⟩ := krows_of hr
  have hx : Od n (.tup rs) := h.kid (.tail _ (.head _))
  obtain ⟨n, rfl⟩ : ∃ k, n = k + 1 := by
    cases n with
    | zero => have := hx.2; unfold dpt at this; omega
    | succ k => exact ⟨k, rfl⟩
  have hl := hx.len
  have e3 : ∀ K : List D → Sto → Res RD, cpK (.v 1) none (den (callN T m) T.gc .nil).b (den (callN T m) T.gc (.frz (.call (c "is_flat") (.cons (.ix (.var 1) (.int 1)) .nil)))).v (wipeL [some (.tup [.str w, .tup rs]), none] [1]) rs [] s K = K (rs.map fun row => D.bl (flatRow (flatB (n + 1)) row)) s := fun K => by
    rw [cp_all (src := none) (ys := rs.map fun row => D.bl (flatRow (flatB (n + 1)) row)) trivial (by rw [sizeLine_eq, List.length_nil]; omega)]
    · rfl
    · refine All2.map fun r hr K1 K2 => ?_
      obtain ⟨a, k, rfl, hk⟩ := hrs r hr
      have ok : Od (n + 1) k := by
        have h2 := (hx.kid hr).mono (Nat.le_succ n)
        have h3 : Od (n + 1) (.tup [.str a, k]) := h2
        exact (Od.kid (n := n) h3 (.tail _ (.head _))).mono (Nat.le_succ _)
      have e4 := ih m s k (by omega) hs ok hk
      simp -implicitDefEqProofs [wipeL, callK_of e4, flatRow]
  have e4 := all_map (s := s) (f := flatRow (flatB (n + 1))) (xs := rs)
  generalize (rs.map fun row => D.bl (flatRow (flatB (n + 1)) row)) = ys at e3 e4
  have e5 : flatB (n + 1 + 1) (.tup [.str w, .tup rs]) = rs.all (flatRow (flatB (n + 1))) := by
    rw [flatB_eq, if_neg hb, if_neg hw]
    rfl
  rw [e5]
  generalize rs.all (flatRow (flatB (n + 1))) = bb at e4 ⊢
  simp -implicitDefEqProofs [f_p_is_flat, b_p_is_flat, E.simple, e1, e2, e3, e4, hf]
theorem flat_of (E : EN T c g) : ∀ n : Nat, FC T c n
  | 0, m, s, d, _, _, _, hk => by cases hk
  | n + 1, m, s, d, hm, hs, h, hk => by
    cases d with
    | tup xs =>
      cases xs with
      | nil => cases hk
      | cons a r =>
        cases a with
        | str w =>
          rw [kindB_eq] at hk
          have lw := (h.kid (.head _)).lv
          have hf := fun b => fin_b (b := b) hs
          by_cases h1 : w ∈ simpleW
          · rw [if_pos h1] at hk
            obtain ⟨m, rfl⟩ : ∃ k, m = k + 1 := ⟨m - 1, by omega⟩
            have hb : w ≠ "bag" := fun e => by subst e; exact absurd h1 (by decide)
            have e1 := eq_wd (s := s) lw lv_bag
            rw [decide_eq_false hb] at e1
            have e2 := in_simple (s := s) lw
            rw [decide_eq_true h1] at e2
            rw [call_at E.is_flat rfl]
            have e5 : flatB (n + 1) (.tup (.str w :: r)) = true := by rw [flatB_eq, if_neg hb, if_pos h1]
            rw [e5]
            simp -implicitDefEqProofs [f_p_is_flat, b_p_is_flat, E.simple, e1, e2, hf]
          · rw [if_neg h1] at hk
            match r, hk, h with
            | [x], hk, h =>
              have hk : (if w = "bag" then kindB n x else if w = "record" then krowsB (kindB n) x else decide (w = "choice") && (krowsB (kindB n) x && (!unitB x && flatB (n + 1) (.tup [.str w, x])))) = true := hk
              by_cases hb : w = "bag"
              · obtain ⟨m, rfl⟩ : ∃ k, m = k + 1 := ⟨m - 1, by omega⟩
                subst hb
                have e1 := eq_wd (s := s) lv_bag lv_bag
                rw [decide_eq_true rfl] at e1
                rw [call_at E.is_flat rfl]
                have e5 : flatB (n + 1) (.tup [.str "bag", x]) = false := by rw [flatB_eq, if_pos rfl]
                rw [e5]
                simp -implicitDefEqProofs [f_p_is_flat, b_p_is_flat, e1, hf]
              · rw [if_neg hb] at hk
                have hr : krowsB (kindB n) x = true := by
                  split at hk
                  · exact hk
                  · exact (and2 (and2 hk).2).1
                exact flat_step E (flat_of E n) hm hs h h1 hb hr
            | [], hk, _ => cases hk
            | _ :: _ :: _, hk, _ => cases hk
        | _ => cases hk
    | _ => cases hk
theorem kindB_no {n : Nat} {d : D} (h : ∀ w r, d ≠ .tup (.str w :: r)) : kindB n d = false := by
  cases n with
  | zero => rfl
  | succ n =>
    show kindS _ _ d = false
    unfold kindS
    split
    · exact absurd rfl (h _ _)
    · rfl
theorem unit_no {x : D} : (∃ xs, x = .tup xs ∧ unitB x = xs.isEmpty) ∨ (∀ xs, x ≠ .tup xs) := by
  cases x with
  | tup xs => exact .inl ⟨xs, rfl, by cases xs <;> rfl⟩
  | _ => exact .inr fun xs e => by cases e
theorem kind_of (E : EN T c g) : ∀ n : Nat, KC T c n
  | 0, m, s, d, hm, hs, h => by
    obtain ⟨m, rfl⟩ : ∃ k, m = k + 1 := ⟨m - 1, by omega⟩
    have hf := fun b => fin_b (b := b) hs
    rw [call_at E.is_kind rfl]
    cases d with
    | tup xs => have := h.2; unfold dpt at this; omega
    | obj i => have := h.1; unfold okD at this; cases this
    | _ => simp -implicitDefEqProofs [f_p_is_kind, b_p_is_kind, kindB, hf]
  | n + 1, m, s, d, hm, hs, h => by
    obtain ⟨m, rfl⟩ : ∃ k, m = k + 1 := ⟨m - 1, by omega⟩
    have hf := fun b => fin_b (b := b) hs
    rw [call_at E.is_kind rfl]
    cases d with
    | obj i => have := h.1; unfold okD at this; cases this
    | tup xs =>
      have e0 := eq_unit (s := s) (xs := xs)
      cases xs with
      | nil => simp -implicitDefEqProofs [f_p_is_kind, b_p_is_kind, kindB, kindS, e0, hf]
      | cons a r =>
        have eb : (a :: r).isEmpty = false := rfl
        rw [eb] at e0
        cases a with
        | str w =>
          have lw := (h.kid (.head _)).lv
          have e2 := in_simple (s := s) lw
          have e3 := eq_wd (s := s) lw lv_bag
          have e4 := eq_wd (s := s) lw lv_rcd
          have e5 := eq_wd (s := s) lw lv_cho
          by_cases h1 : w ∈ simpleW
          · rw [decide_eq_true h1] at e2
            have e6 : kindB (n + 1) (.tup (.str w :: r)) = r.isEmpty := by rw [kindB_eq, if_pos h1]
            rw [e6]
            cases r with
            | nil => simp -implicitDefEqProofs [f_p_is_kind, b_p_is_kind, E.simple, e0, e2, hf]
            | cons x r =>
              have q : ¬ ((r.length : Int) + 1 + 1 = 1) := by omega
              simp -implicitDefEqProofs [f_p_is_kind, b_p_is_kind, E.simple, e0, e2, q, hf]
          · rw [decide_eq_false h1] at e2
            match r, h, e0 with
            | [], h, e0 => simp -implicitDefEqProofs [f_p_is_kind, b_p_is_kind, E.simple, kindB_eq, kindR, h1, e0, e2, hf]
            | x :: y :: r, h, e0 =>
              have q : ¬ ((r.length : Int) + 1 + 1 + 1 = 2) := by omega
              have e6 : kindB (n + 1) (.tup (.str w :: x :: y :: r)) = false := by rw [kindB_eq, if_neg h1]; rfl
              rw [e6]
              simp -implicitDefEqProofs [f_p_is_kind, b_p_is_kind, E.simple, e0, e2, q, hf]
            | [x], h, e0 =>
              have hx := h.kid (.tail _ (.head _))
              have e6 : kindB (n + 1) (.tup [.str w, x]) = if w = "bag" then kindB n x else if w = "record" then krowsB (kindB n) x else decide (w = "choice") && (krowsB (kindB n) x && (!unitB x && flatB (n + 1) (.tup [.str w, x]))) := by rw [kindB_eq, if_neg h1]; rfl
              rw [e6]
              by_cases hb : w = "bag"
              · rw [if_pos hb]
                rw [decide_eq_true hb] at e3
                have e7 := kind_of E n m s x (by omega) hs hx
                simp -implicitDefEqProofs [f_p_is_kind, b_p_is_kind, E.simple, e0, e2, e3, callK_of e7, hf]
              · rw [if_neg hb]
                rw [decide_eq_false hb] at e3
                have e7 := t_are_rows E (kind_of E n) (m := m) (by omega) hs (hx.mono (show n ≤ n + 2 by omega))
                by_cases hr : w = "record"
                · rw [if_pos hr]
                  rw [decide_eq_true hr] at e4
                  simp -implicitDefEqProofs [f_p_is_kind, b_p_is_kind, E.simple, e0, e2, e3, e4, callK_of e7, hf]
                · rw [if_neg hr]
                  rw [decide_eq_false hr] at e4
                  by_cases hc : w = "choice"
                  · rw [decide_eq_true hc] at e5 ⊢
                    rw [Bool.true_and]
                    cases hk : krowsB (kindB n) x with
                    | false =>
                      rw [hk] at e7
                      simp -implicitDefEqProofs [f_p_is_kind, b_p_is_kind, E.simple, e0, e2, e3, e4, e5, callK_of e7, hf]
                    | true =>
                      rw [hk] at e7
                      obtain ⟨rs, rfl, _⟩ := krows_of hk
                      have e8 := flat_step E (flat_of E n) (m := m) (by omega) hs h h1 hb hk
                      have e9 := eq_unit (s := s) (xs := rs)
                      cases rs with
                      | nil => simp -implicitDefEqProofs [f_p_is_kind, b_p_is_kind, E.simple, e0, e2, e3, e4, e5, callK_of e7, e9, unitB, hf]
                      | cons r0 rs =>
                        have eu : unitB (.tup (r0 :: rs)) = false := rfl
                        have ee : (r0 :: rs).isEmpty = false := rfl
                        rw [ee] at e9
                        rw [eu]
                        generalize flatB (n + 1) (.tup [.str w, .tup (r0 :: rs)]) = bb at e8 ⊢
                        simp -implicitDefEqProofs [f_p_is_kind, b_p_is_kind, E.simple, e0, e2, e3, e4, e5, callK_of e7, callK_of e8, e9, hf]
                  · rw [decide_eq_false hc] at e5 ⊢
                    simp -implicitDefEqProofs [f_p_is_kind, b_p_is_kind, E.simple, e0, e2, e3, e4, e5, hf]
        | obj i => have := h.1; simp [okD, okDs] at this
        | _ =>
          rw [kindB_no fun w r e => by cases e]
          simp -implicitDefEqProofs [f_p_is_kind, b_p_is_kind, e0, hf]
    | _ =>
      rw [kindB_no fun w r e => by cases e]
      simp -implicitDefEqProofs [f_p_is_kind, b_p_is_kind, hf]
end Nv.S2

set_option Elab.async false
set_option maxRecDepth 100000
set_option autoImplicit false
set_option linter.all false
set_option maxHeartbeats 4000000
/-! S2o: is a thing a question? -/
namespace Nv.S2
open PySem PySem.Spec PyProof.Rows L2
variable {T : Tab} {c g : Str → Nat}
structure EV (T : Tab) (c g : Str → Nat) : Prop extends EN T c g, EP T c g where
  is_whole : T.fns[c "is_whole"]? = some (f_p_is_whole c g)
  is_text : T.fns[c "is_text"]? = some (f_p_is_text c g)
  is_value : T.fns[c "is_value"]? = some (f_p_is_value c g)
  is_word : T.fns[c "is_word"]? = some (f_p_is_word c g)
  rowsq : T.fns[c "are_rows_questions"]? = some (f_p_are_rows_questions c g)
  is_rowed : T.fns[c "is_rowed"]? = some (f_p_is_rowed c g)
  is_made : T.fns[c "is_made"]? = some (f_p_is_made c g)
  is_question : T.fns[c "is_question"]? = some (f_p_is_question c g)
  signs : T.gc (g "SIGNS") = some (.str "\x20!\"#$&'()*+,-./0123456789:;<=>?@ABCDEFGHIJKLMNOPQRSTUVWXYZ[\\]^_`abcdefghijklmnopqrstuvwxyz{|}~")
  lettersq : T.gc (g "LETTERS_questions") = some (.str "abcdefghijklmnopqrstuvwxyz")
  longestq : T.gc (g "LONGEST_questions") = some (.int 8)
  values : T.gc (g "VALUES") = some (.tup [.str "number", .str "text", .str "truth"])
theorem t_is_word (E : EV T c g) {m n : Nat} {s : Sto} {d : D} (hm : 1 ≤ m) (hs : Clo s) (h : Od n d) : callN T m (c "is_word") [d] s = .ok (.d (.bl (nameB d))) s := by
  obtain ⟨m, rfl⟩ : ∃ k, m = k + 1 := ⟨m - 1, by omega⟩
  rw [call_at E.is_word rfl]
  have hf := fun b => fin_b (b := b) hs
  cases d with
  | str x =>
    have hl := h.strlen
    have e1 := len_str (s := s) (x := x) (by rw [sizeLine_eq]; omega)
    have e2 := fun K : List D → Sto → Res RD => cp_signs (cf := callN T m) (s := s) (d := .str x) E.lettersq hl K
    have e3 := all_map (s := s) (f := fun ch => decide (ch ∈ ("abcdefghijklmnopqrstuvwxyz" : Str).cps.toList)) (xs := x.cps.toList)
    rw [letters_all] at e3
    generalize (x.cps.toList.map fun ch => D.bl (decide (ch ∈ ("abcdefghijklmnopqrstuvwxyz" : Str).cps.toList))) = ys at e2 e3
    by_cases h1 : x.length < 1
    · have h2 : ¬ (1 ≤ x.length) := by omega
      have h3 : ¬ ((1 : Int) ≤ (x.length : Nat)) := by omega
      simp -implicitDefEqProofs [f_p_is_word, b_p_is_word, nameB, e1, h2, h3, hf]
    · by_cases h4 : 8 < x.length
      · have h2 : 1 ≤ x.length := by omega
        have h3 : (1 : Int) ≤ (x.length : Nat) := by omega
        have h5 : ¬ ((x.length : Nat) : Int) ≤ 8 := by omega
        have h6 : ¬ (x.length ≤ 8) := by omega
        simp -implicitDefEqProofs [f_p_is_word, b_p_is_word, nameB, e1, E.longestq, h2, h3, h5, h6, hf]
      · have h2 : 1 ≤ x.length := by omega
        have h3 : (1 : Int) ≤ (x.length : Nat) := by omega
        have h5 : ((x.length : Nat) : Int) ≤ 8 := by omega
        have h6 : x.length ≤ 8 := by omega
        simp -implicitDefEqProofs [f_p_is_word, b_p_is_word, nameB, e1, E.longestq, h2, h3, h5, h6, e2, e3, hf]
  | obj i => have := h.1; unfold okD at this; cases this
  | _ => simp -implicitDefEqProofs [f_p_is_word, b_p_is_word, nameB, hf]
theorem t_is_whole (E : EV T c g) {m n : Nat} {s : Sto} {d : D} (hm : 1 ≤ m) (hs : Clo s) (h : Od n d) : callN T m (c "is_whole") [d] s = .ok (.d (.bl (valB "number" d))) s := by
  obtain ⟨m, rfl⟩ : ∃ k, m = k + 1 := ⟨m - 1, by omega⟩
  rw [call_at E.is_whole rfl]
  have hf := fun b => fin_b (b := b) hs
  have q : (("number" : Str) = "text") = False := by simp; decide
  have q2 : (("number" : Str) = "truth") = False := by simp; decide
  cases d with
  | obj i => have := h.1; unfold okD at this; cases this
  | _ => simp -implicitDefEqProofs [f_p_is_whole, b_p_is_whole, valB, q, q2, hf]
theorem t_is_text (E : EV T c g) {m n : Nat} {s : Sto} {d : D} (hm : 1 ≤ m) (hs : Clo s) (h : Od n d) : callN T m (c "is_text") [d] s = .ok (.d (.bl (valB "text" d))) s := by
  obtain ⟨m, rfl⟩ : ∃ k, m = k + 1 := ⟨m - 1, by omega⟩
  rw [call_at E.is_text rfl]
  have hf := fun b => fin_b (b := b) hs
  have q : (("text" : Str) = "number") = False := by simp; decide
  have q2 : (("text" : Str) = "truth") = False := by simp; decide
  cases d with
  | str x =>
    have hl := h.strlen
    have e2 := fun K : List D → Sto → Res RD => cp_signs (cf := callN T m) (s := s) (d := .str x) E.signs hl K
    have e3 := all_map (s := s) (f := fun ch => decide (ch ∈ ("\x20!\"#$&'()*+,-./0123456789:;<=>?@ABCDEFGHIJKLMNOPQRSTUVWXYZ[\\]^_`abcdefghijklmnopqrstuvwxyz{|}~" : Str).cps.toList)) (xs := x.cps.toList)
    rw [signs_all] at e3
    generalize (x.cps.toList.map fun ch => D.bl (decide (ch ∈ ("\x20!\"#$&'()*+,-./0123456789:;<=>?@ABCDEFGHIJKLMNOPQRSTUVWXYZ[\\]^_`abcdefghijklmnopqrstuvwxyz{|}~" : Str).cps.toList))) = ys at e2 e3
    simp -implicitDefEqProofs [f_p_is_text, b_p_is_text, valB, q, q2, e2, e3, hf]
  | obj i => have := h.1; unfold okD at this; cases this
  | _ => simp -implicitDefEqProofs [f_p_is_text, b_p_is_text, valB, q, q2, hf]
theorem lv_num : lv "number" := by unfold lv; decide +kernel
theorem lv_txt : lv "text" := by unfold lv; decide +kernel
theorem lv_tru : lv "truth" := by unfold lv; decide +kernel
theorem t_is_value (E : EV T c g) {m n : Nat} {s : Sto} {w : Str} {d : D} (hm : 2 ≤ m) (hs : Clo s) (hw : w ∈ simpleW) (h : Od n d) : callN T m (c "is_value") [.tup [.str w], d] s = .ok (.d (.bl (valB w d))) s := by
  obtain ⟨m, rfl⟩ : ∃ k, m = k + 1 := ⟨m - 1, by omega⟩
  rw [call_at E.is_value rfl]
  have hf := fun b => fin_b (b := b) hs
  have e1 := eq_wd (s := s) (lv_simple w hw) lv_num
  have e2 := eq_wd (s := s) (lv_simple w hw) lv_txt
  have e3 := eq_wd (s := s) (lv_simple w hw) lv_tru
  simp only [List.mem_cons, List.not_mem_nil, or_false] at hw
  rcases hw with rfl | rfl | rfl
  · have e4 := t_is_whole E (m := m) (by omega) hs h
    rw [decide_eq_true rfl] at e1
    generalize valB "number" d = b at e4 ⊢
    simp -implicitDefEqProofs [f_p_is_value, b_p_is_value, e1, callK_of e4, hf]
  · have e4 := t_is_text E (m := m) (by omega) hs h
    rw [decide_eq_false (by decide)] at e1
    rw [decide_eq_true rfl] at e2
    generalize valB "text" d = b at e4 ⊢
    simp -implicitDefEqProofs [f_p_is_value, b_p_is_value, e1, e2, callK_of e4, hf]
  · rw [decide_eq_false (by decide)] at e1 e2
    rw [decide_eq_true rfl] at e3
    have q : (("truth" : Str) = "number") = False := by simp; decide
    have q2 : (("truth" : Str) = "text") = False := by simp; decide
    cases d with
    | obj i => have := h.1; unfold okD at this; cases this
    | _ => simp -implicitDefEqProofs [f_p_is_value, b_p_is_value, valB, e1, e2, e3, q, q2, hf]
/-! rows of a question -/
def rowsU (c : Str → Nat) : Sm := (.cons (.ifs (.or (.nt (.isin (.var 3) .tuple)) (.or (.cmp .ne (.b1 .len
    (.var 3)) (.var 1)) (.nt (.call (c "is_word") (.cons (.ix (.var 3) (.int 0)) .nil))))) (.cons (.ret (.bl
    false)) .nil) .nil) (.cons (.ifs (.and (.cmp .gt (.var 2) (.int 0)) (.cmp .ge (.ix (.ix (.var 0) (.bin .sub
    (.var 2) (.int 1))) (.int 0)) (.ix (.var 3) (.int 0)))) (.cons (.ret (.bl false)) .nil) .nil) .nil))
theorem headq {k : Int} {d : D} (h : qrowB k d = true) : ∃ a r, d = .tup (.str a :: r) ∧ headS d = a := by
  unfold qrowB at h
  split at h
  · rename_i x r
    have h1 := (and2 h).2
    unfold nameB at h1
    split at h1
    · exact ⟨_, _, rfl, rfl⟩
    · cases h1
  · cases h
theorem rows_loop (E : EV T c g) {m n : Nat} {s : Sto} {rs : List D} {q : Int} (hm : 1 ≤ m) (hs : Clo s) (hq : 1 ≤ q) (h : Od (n + 2) (.tup rs)) : ∀ {rest : List D} {k : Nat} {o2 o3 : Option D}, rs.drop k = rest → (∀ p, k = p + 1 → ∃ x, rs[p]? = some x ∧ qrowB q x = true) →
    ∃ l', ∀ j : Fl → Loc → Sto → Res RD, forK (.c (.v 2) (.c (.v 3) .n)) none (sden (callN T m) T.gc (rowsU c)) (numbered k rest) [some (.tup rs), some (.int q), o2, o3] s j =
      if (rest.all (qrowB q) && (match k with | 0 => adjB rest | p + 1 => adjB ((rs[p]?).getD .non :: rest))) = true then j .nx l' s else j (.rt (.d (.bl false))) l' s
  | [], k, o2, o3, hr, hp => ⟨_, fun j => by
      rw [show numbered k ([] : List D) = [] from rfl, for_nil (src := none) trivial, if_pos]
      cases k <;> rfl⟩
  | x :: rest, k, o2, o3, hr, hp => by
    have hx : rs[k]? = some x := by
      have := congrArg (fun l => l[0]?) hr
      simpa using this
    have hr2 : rs.drop (k + 1) = rest := by
      rw [← List.drop_drop, hr]; rfl
    have ox := h.kid (List.mem_of_getElem? hx)
    have step : ∀ (j : Fl → Loc → Sto → Res RD), forK (.c (.v 2) (.c (.v 3) .n)) none (sden (callN T m) T.gc (rowsU c)) (numbered k (x :: rest)) [some (.tup rs), some (.int q), o2, o3] s j =
        sk (callN T m) T.gc (rowsU c) [some (.tup rs), some (.int q), some (.int k), some x] s fun f l2 s2 => (match f with
          | .nx => forK (.c (.v 2) (.c (.v 3) .n)) none (sden (callN T m) T.gc (rowsU c)) (numbered (k + 1) rest) l2 s2 j
          | .ct => forK (.c (.v 2) (.c (.v 3) .n)) none (sden (callN T m) T.gc (rowsU c)) (numbered (k + 1) rest) l2 s2 j
          | .bk => j .nx l2 s2
          | .rt d => j (.rt d) l2 s2) := fun j => by
      rw [show numbered k (x :: rest) = .tup [.int k, x] :: numbered (k + 1) rest from rfl, for_cons (src := none) trivial, bt_2, bt_v2, bt_v3]
      all_goals rfl
    cases hb : qrowB q x with
    | false =>
      refine ⟨[some (.tup rs), some (.int q), some (.int k), some x], fun j => ?_⟩
      rw [step, if_neg (by rw [List.all_cons, hb]; simp)]
      cases x with
      | obj i => have := ox.1; unfold okD at this; cases this
      | tup xs =>
        cases xs with
        | nil =>
          have e0 : ¬ ((0 : Int) = q) := by omega
          simp -implicitDefEqProofs [rowsU, e0]
        | cons a r =>
          by_cases hl : (((a :: r).length : Nat) : Int) = q
          · have hn : nameB a = false := by
              have hb : (decide ((((a :: r).length : Nat) : Int) = q) && nameB a) = false := hb
              rw [decide_eq_true hl, Bool.true_and] at hb
              exact hb
            have e1 := t_is_word E (m := m) hm hs (ox.kid (.head _))
            rw [hn] at e1
            rw [List.length_cons] at hl
            have hl2 : (r.length : Int) + 1 = q := by omega
            simp -implicitDefEqProofs [rowsU, hl2, callK_of e1]
          · rw [List.length_cons] at hl
            have hl2 : ¬ (r.length : Int) + 1 = q := by omega
            simp -implicitDefEqProofs [rowsU, hl2]
      | _ => simp -implicitDefEqProofs [rowsU]
    | true =>
      obtain ⟨a, r, rfl, ea⟩ := headq hb
      have hl : (r.length : Int) + 1 = q := by
        have hb : (decide ((((D.str a :: r).length : Nat) : Int) = q) && nameB (.str a)) = true := hb
        have := of_decide_eq_true (and2 hb).1
        rw [List.length_cons] at this
        omega
      have hn : nameB (.str a) = true := (and2 hb).2
      have e1 := t_is_word E (m := m) hm hs (ox.kid (.head _))
      rw [hn] at e1
      obtain ⟨l', e2⟩ := rows_loop E hm hs hq h (rest := rest) (k := k + 1) (o2 := some (.int k)) (o3 := some (.tup (.str a :: r))) hr2 (fun p hp2 => by cases hp2; exact ⟨_, hx, hb⟩)
      simp only [hx, Option.getD_some] at e2
      cases k with
      | zero =>
        refine ⟨l', fun j => ?_⟩
        rw [step]
        have e3 : ((D.tup (.str a :: r) :: rest).all (qrowB q) && adjB (D.tup (.str a :: r) :: rest)) = (rest.all (qrowB q) && adjB (D.tup (.str a :: r) :: rest)) := by rw [List.all_cons, hb, Bool.true_and]
        simp only
        rw [e3, ← e2]
        simp -implicitDefEqProofs [rowsU, hl, callK_of e1]
      | succ p =>
        obtain ⟨y, hy, hyb⟩ := hp p rfl
        obtain ⟨b, r', rfl, eb⟩ := headq hyb
        have hi : atI rs (p : Int) = some (.tup (.str b :: r')) := atI_nat hy
        have hpos : (0 : Int) < (p : Int) + 1 := by omega
        have e4 : cmpR .ge s (.d (.str b)) (.d (.str a)) = some (!decide (b.cps.toList < a.cps.toList)) := rfl
        have e5 : adjB (D.tup (.str b :: r') :: D.tup (.str a :: r) :: rest) = (decide (b.cps.toList < a.cps.toList) && adjB (D.tup (.str a :: r) :: rest)) := rfl
        simp only [hy, Option.getD_some]
        rw [e5]
        cases hlt : decide (b.cps.toList < a.cps.toList) with
        | false =>
          refine ⟨[some (.tup rs), some (.int q), some (.int ((p : Nat) + 1 : Nat)), some (.tup (.str a :: r))], fun j => ?_⟩
          rw [step, if_neg (by simp)]
          rw [hlt] at e4
          simp -implicitDefEqProofs [rowsU, hl, callK_of e1, hpos, hi, e4]
        | true =>
          refine ⟨l', fun j => ?_⟩
          rw [step]
          have e3 : ((D.tup (.str a :: r) :: rest).all (qrowB q) && (true && adjB (D.tup (.str a :: r) :: rest))) = (rest.all (qrowB q) && adjB (D.tup (.str a :: r) :: rest)) := by rw [List.all_cons, hb, Bool.true_and, Bool.true_and]
          rw [e3, ← e2]
          rw [hlt] at e4
          simp -implicitDefEqProofs [rowsU, hl, callK_of e1, hpos, hi, e4]
theorem t_rowsq (E : EV T c g) {m n : Nat} {s : Sto} {d : D} {q : Int} (hm : 2 ≤ m) (hs : Clo s) (hq : 1 ≤ q) (h : Od (n + 2) d) : callN T m (c "are_rows_questions") [d, .int q] s = .ok (.d (.bl (qrowsB q d))) s := by
  obtain ⟨m, rfl⟩ : ∃ k, m = k + 1 := ⟨m - 1, by omega⟩
  rw [call_at E.rowsq rfl]
  have hf := fun b => fin_b (b := b) hs
  cases d with
  | tup rs =>
    obtain ⟨l', e⟩ := rows_loop E (m := m) (by omega) hs hq h (rest := rs) (k := 0) (o2 := none) (o3 := none) rfl (fun p e => by cases e)
    unfold rowsU at e
    simp only at e
    have e2 : qrowsB q (.tup rs) = (rs.all (qrowB q) && adjB rs) := rfl
    rw [e2]
    generalize (rs.all (qrowB q) && adjB rs) = b at e ⊢
    cases b with
    | true =>
      simp only [if_true] at e
      simp -implicitDefEqProofs [f_p_are_rows_questions, b_p_are_rows_questions, e, hf]
    | false =>
      simp only [Bool.false_eq_true, if_false] at e
      simp -implicitDefEqProofs [f_p_are_rows_questions, b_p_are_rows_questions, e, hf]
  | obj i => have := h.1; unfold okD at this; cases this
  | _ => simp -implicitDefEqProofs [f_p_are_rows_questions, b_p_are_rows_questions, qrowsB, hf]
end Nv.S2

set_option Elab.async false
set_option maxRecDepth 100000
set_option autoImplicit false
set_option linter.all false
set_option maxHeartbeats 4000000
/-! S2p: is a thing a question? -/
namespace Nv.S2
open PySem PySem.Spec PyProof.Rows L2
variable {T : Tab} {c g : Str → Nat}
/-- what the tests of a word that lays tell -/
structure WL (s : Sto) (w : Str) : Prop where
  si : inR s (.d (.str w)) (.d (.tup [.str "number", .str "text", .str "truth"])) = some (decide (w ∈ simpleW))
  bi : inR s (.d (.str w)) (.d (.tup [.str "let", .str "for", .str "sum"])) = some (decide (w ∈ bindW))
  na : eqR s (.d (.str w)) (.d (.str "name")) = some (decide (w = "name"))
  em : eqR s (.d (.str w)) (.d (.str "empty")) = some (decide (w = "empty"))
  re : eqR s (.d (.str w)) (.d (.str "record")) = some (decide (w = "record"))
  fi : eqR s (.d (.str w)) (.d (.str "field")) = some (decide (w = "field"))
  ca : eqR s (.d (.str w)) (.d (.str "case")) = some (decide (w = "case"))
  ta : eqR s (.d (.str w)) (.d (.str "tag")) = some (decide (w = "tag"))
  ma : eqR s (.d (.str w)) (.d (.str "match")) = some (decide (w = "match"))
theorem wl {s : Sto} {w : Str} (hw : lv w) : WL s w :=
  ⟨in_simple hw, (in_strs (ws := bindW) hw (by unfold lv; decide +kernel)).1, eq_wd hw (by unfold lv; decide +kernel), eq_wd hw (by unfold lv; decide +kernel), eq_wd hw lv_rcd, eq_wd hw (by unfold lv; decide +kernel), eq_wd hw (by unfold lv; decide +kernel), eq_wd hw (by unfold lv; decide +kernel), eq_wd hw (by unfold lv; decide +kernel)⟩
theorem kind_shape {n : Nat} {k : D} (h : kindB n k = true) : ∃ w r, k = .tup (.str w :: r) ∧ headS k = w := by
  cases n with
  | zero => cases h
  | succ n =>
    have h : kindS _ _ k = true := h
    unfold kindS at h
    split at h
    · exact ⟨_, _, rfl, rfl⟩
    · cases h
theorem rowed_rcd {n : Nat} {r : List D} : rowedB n "record" r = l1 (qrowsB 2) r := rfl
theorem t_is_rowed (E : EV T c g) {m n : Nat} {s : Sto} {w : Str} {r : List D} (hm : 3 * n + 4 ≤ m) (hs : Clo s) (h : Od (n + 1) (.tup (.str w :: r))) : callN T m (c "is_rowed") [.tup (.str w :: r)] s = .ok (.d (.bl (rowedB n w r))) s := by
  obtain ⟨m, rfl⟩ : ∃ k, m = k + 1 := ⟨m - 1, by omega⟩
  rw [call_at E.is_rowed rfl]
  have hf := fun b => fin_b (b := b) hs
  have W := wl (s := s) (h.kid (.head _)).lv
  have h1 := W.re
  have h2 := W.fi
  have h3 := W.ca
  have h4 := W.ta
  have h5 := W.ma
  clear W
  unfold rowedB
  by_cases c1 : w = "record"
  · rw [if_pos c1]
    rw [decide_eq_true c1] at h1
    match r, h with
    | [], h => simp -implicitDefEqProofs [f_p_is_rowed, b_p_is_rowed, l1, h1, hf]
    | [x], h =>
      have e := t_rowsq E (m := m) (n := n) (q := 2) (by omega) hs (by decide) ((h.kid (.tail _ (.head _))).mono (show n ≤ n + 2 by omega))
      simp -implicitDefEqProofs [f_p_is_rowed, b_p_is_rowed, l1, h1, callK_of e, hf]
    | x :: y :: r, h =>
      have q : ¬ ((r.length : Int) + 1 + 1 + 1 = 2) := by omega
      simp -implicitDefEqProofs [f_p_is_rowed, b_p_is_rowed, l1, h1, q, hf]
  rw [if_neg c1]
  rw [decide_eq_false c1] at h1
  by_cases c2 : w = "field" ∨ w = "case"
  · rw [if_pos c2]
    have q : ∀ (β : Type) (A B : Res β), (if decide (w = "field") = true then A else if decide (w = "case") = true then A else B) = A := fun β A B => by
      rcases c2 with z | z
      · rw [decide_eq_true z, if_pos rfl]
      · rw [decide_eq_true z]; split <;> rfl
    have q2 : decide (w = "field") = true ∨ (decide (w = "field") = false ∧ decide (w = "case") = true) := by
      by_cases z : w = "field"
      · exact .inl (decide_eq_true z)
      · exact .inr ⟨decide_eq_false z, decide_eq_true (c2.resolve_left z)⟩
    match r, h with
    | [], h => rcases q2 with z | ⟨z, y⟩ <;> simp -implicitDefEqProofs [f_p_is_rowed, b_p_is_rowed, l2, h1, h2, h3, z, *, hf]
    | [x], h => rcases q2 with z | ⟨z, y⟩ <;> simp -implicitDefEqProofs [f_p_is_rowed, b_p_is_rowed, l2, h1, h2, h3, z, *, hf]
    | [x, y], h =>
      have e := t_is_word E (m := m) (by omega) hs (h.kid (.tail _ (.tail _ (.head _))))
      rcases q2 with z | ⟨z, y⟩
      · rw [z] at h2
        simp -implicitDefEqProofs [f_p_is_rowed, b_p_is_rowed, l2, h1, h2, callK_of e, hf]
      · rw [z] at h2
        rw [y] at h3
        simp -implicitDefEqProofs [f_p_is_rowed, b_p_is_rowed, l2, h1, h2, h3, callK_of e, hf]
    | x :: y :: z0 :: r, h =>
      have q : ¬ ((r.length : Int) + 1 + 1 + 1 + 1 = 3) := by omega
      rcases q2 with z | ⟨z, y⟩
      · rw [z] at h2
        simp -implicitDefEqProofs [f_p_is_rowed, b_p_is_rowed, l2, h1, h2, q, hf]
      · rw [z] at h2
        rw [y] at h3
        simp -implicitDefEqProofs [f_p_is_rowed, b_p_is_rowed, l2, h1, h2, h3, q, hf]
  rw [if_neg c2]
  rw [decide_eq_false fun z => c2 (.inl z)] at h2
  rw [decide_eq_false fun z => c2 (.inr z)] at h3
  by_cases c3 : w = "tag"
  · rw [if_pos c3]
    rw [decide_eq_true c3] at h4
    match r, h with
    | [], h => simp -implicitDefEqProofs [f_p_is_rowed, b_p_is_rowed, l3, h1, h2, h3, h4, hf]
    | [x], h => simp -implicitDefEqProofs [f_p_is_rowed, b_p_is_rowed, l3, h1, h2, h3, h4, hf]
    | [x, y], h => simp -implicitDefEqProofs [f_p_is_rowed, b_p_is_rowed, l3, h1, h2, h3, h4, hf]
    | [k, x, y], h =>
      have ok := h.kid (.tail _ (.head _))
      have e := kind_of E.toEN n m s k (by omega) hs ok
      have e2 := t_is_word E (m := m) (by omega) hs (h.kid (.tail _ (.tail _ (.head _))))
      cases hk : kindB n k with
      | false =>
        rw [hk] at e
        simp -implicitDefEqProofs [f_p_is_rowed, b_p_is_rowed, l3, h1, h2, h3, h4, callK_of e, hk, hf]
      | true =>
        rw [hk] at e
        obtain ⟨w', r', rfl, hw'⟩ := kind_shape hk
        have e3 := eq_wd (s := s) (w := w') (y := "choice") (by
          have := ok.1
          unfold okD okDs okD at this
          exact (and2 (and2 (and2 this).2).1).1) lv_cho
        by_cases c4 : w' = "choice"
        · rw [decide_eq_true c4] at e3
          subst c4
          simp -implicitDefEqProofs [f_p_is_rowed, b_p_is_rowed, l3, h1, h2, h3, h4, callK_of e, callK_of e2, hk, e3, hw', hf]
        · rw [decide_eq_false c4] at e3
          simp -implicitDefEqProofs [f_p_is_rowed, b_p_is_rowed, l3, h1, h2, h3, h4, callK_of e, hk, e3, hw', c4, hf]
    | x :: y :: z :: u :: r, h =>
      have q : ¬ ((r.length : Int) + 1 + 1 + 1 + 1 + 1 = 4) := by omega
      simp -implicitDefEqProofs [f_p_is_rowed, b_p_is_rowed, l3, h1, h2, h3, h4, q, hf]
  rw [if_neg c3]
  rw [decide_eq_false c3] at h4
  by_cases c5 : w = "match"
  · rw [if_pos c5]
    rw [decide_eq_true c5] at h5
    match r, h with
    | [], h => simp -implicitDefEqProofs [f_p_is_rowed, b_p_is_rowed, l2, h1, h2, h3, h4, h5, hf]
    | [x], h => simp -implicitDefEqProofs [f_p_is_rowed, b_p_is_rowed, l2, h1, h2, h3, h4, h5, hf]
    | x :: y :: z :: r, h =>
      have q : ¬ ((r.length : Int) + 1 + 1 + 1 + 1 = 3) := by omega
      simp -implicitDefEqProofs [f_p_is_rowed, b_p_is_rowed, l2, h1, h2, h3, h4, h5, q, hf]
    | [x, y], h =>
      have oy := h.kid (.tail _ (.tail _ (.head _)))
      have e := t_rowsq E (m := m) (n := n) (q := 3) (by omega) hs (by decide) (oy.mono (show n ≤ n + 2 by omega))
      cases hq : qrowsB 3 y with
      | false =>
        rw [hq] at e
        simp -implicitDefEqProofs [f_p_is_rowed, b_p_is_rowed, l2, h1, h2, h3, h4, h5, callK_of e, hq, hf]
      | true =>
        rw [hq] at e
        cases y with
        | tup rs =>
          have e2 := eq_unit (s := s) (xs := rs)
          cases rs with
          | nil => simp -implicitDefEqProofs [f_p_is_rowed, b_p_is_rowed, l2, h1, h2, h3, h4, h5, callK_of e, hq, e2, unitB, hf]
          | cons r0 rs =>
            have eu : unitB (.tup (r0 :: rs)) = false := rfl
            have ee : (r0 :: rs).isEmpty = false := rfl
            have ei : itemsD (.tup (r0 :: rs)) = r0 :: rs := rfl
            rw [ee] at e2
            have hr : ∀ z ∈ r0 :: rs, qrowB 3 z = true := List.all_eq_true.mp (and2 (show ((r0 :: rs).all (qrowB 3) && adjB (r0 :: rs)) = true from hq)).1
            generalize r0 :: rs = zs at hr e e2 h oy hq eu ei ⊢
            have hl := oy.len
            have e3 : ∀ K : List D → Sto → Res RD, cpK (.v 1) none (den (callN T m) T.gc .nil).b (den (callN T m) T.gc (.frz (.call (c "is_word") (.cons (.ix (.var 1) (.int 1)) .nil)))).v (wipeL [some (.tup [.str w, x, .tup zs]), none] [1]) zs [] s K = K (zs.map fun z => D.bl (sndName z)) s := fun K => by
              rw [cp_all (src := none) (ys := zs.map fun z => D.bl (sndName z)) trivial (by rw [sizeLine_eq, List.length_nil]; omega)]
              · rfl
              · refine All2.map fun z hz K1 K2 => ?_
                obtain ⟨a, r', rfl, _⟩ := headq (hr z hz)
                have ln : (((D.str a :: r').length : Nat) : Int) = 3 := of_decide_eq_true (and2 (show (decide ((((D.str a :: r').length : Nat) : Int) = 3) && nameB (.str a)) = true from hr _ hz)).1
                rw [List.length_cons] at ln
                obtain ⟨u, v, rfl⟩ := two_of (xs := r') (by omega)
                have oz : Od (n + 1) (.tup [.str a, u, v]) := ((oy.mono (show n ≤ n - 1 + 1 by omega)).kid hz).mono (by omega)
                have e4 := t_is_word E (m := m) (by omega) hs (oz.kid (.tail _ (.head _)))
                have e5 : sndName (.tup [.str a, u, v]) = nameB u := rfl
                rw [e5]
                simp -implicitDefEqProofs [wipeL, callK_of e4]
            have e4 := all_map (s := s) (f := sndName) (xs := zs)
            generalize (zs.map fun z => D.bl (sndName z)) = ys at e3 e4
            simp -implicitDefEqProofs [f_p_is_rowed, b_p_is_rowed, l2, h1, h2, h3, h4, h5, callK_of e, hq, e2, e3, e4, eu, ei, hf]
        | _ => cases hq
  rw [if_neg c5]
  rw [decide_eq_false c5] at h5
  simp -implicitDefEqProofs [f_p_is_rowed, b_p_is_rowed, h1, h2, h3, h4, h5, hf]
theorem t_is_made (E : EV T c g) {m n : Nat} {s : Sto} {w : Str} {r : List D} (hm : 3 * n + 5 ≤ m) (hs : Clo s) (h : Od (n + 1) (.tup (.str w :: r))) : callN T m (c "is_made") [.tup (.str w :: r)] s = .ok (.d (.bl (madeB n w r))) s := by
  obtain ⟨m, rfl⟩ : ∃ k, m = k + 1 := ⟨m - 1, by omega⟩
  rw [call_at E.is_made rfl]
  have hf := fun b => fin_b (b := b) hs
  have W := wl (s := s) (h.kid (.head _)).lv
  have h1 := W.si
  have h2 := W.na
  have h3 := W.em
  have h4 := W.bi
  clear W
  unfold madeB
  by_cases c1 : w ∈ simpleW
  · rw [if_pos c1]
    rw [decide_eq_true c1] at h1
    match r, h with
    | [], h => simp -implicitDefEqProofs [f_p_is_made, b_p_is_made, E.values, l1, h1, hf]
    | [x], h =>
      have e := t_is_value E (m := m) (by omega) hs c1 (h.kid (.tail _ (.head _)))
      simp -implicitDefEqProofs [f_p_is_made, b_p_is_made, E.values, l1, h1, callK_of e, hf]
    | x :: y :: r, h =>
      have q : ¬ ((r.length : Int) + 1 + 1 + 1 = 2) := by omega
      simp -implicitDefEqProofs [f_p_is_made, b_p_is_made, E.values, l1, h1, q, hf]
  rw [if_neg c1]
  rw [decide_eq_false c1] at h1
  by_cases c2 : w = "name"
  · rw [if_pos c2]
    rw [decide_eq_true c2] at h2
    match r, h with
    | [], h => simp -implicitDefEqProofs [f_p_is_made, b_p_is_made, E.values, l1, h1, h2, hf]
    | [x], h =>
      have e := t_is_word E (m := m) (by omega) hs (h.kid (.tail _ (.head _)))
      simp -implicitDefEqProofs [f_p_is_made, b_p_is_made, E.values, l1, h1, h2, callK_of e, hf]
    | x :: y :: r, h =>
      have q : ¬ ((r.length : Int) + 1 + 1 + 1 = 2) := by omega
      simp -implicitDefEqProofs [f_p_is_made, b_p_is_made, E.values, l1, h1, h2, q, hf]
  rw [if_neg c2]
  rw [decide_eq_false c2] at h2
  by_cases c3 : w = "empty"
  · rw [if_pos c3]
    rw [decide_eq_true c3] at h3
    match r, h with
    | [], h => simp -implicitDefEqProofs [f_p_is_made, b_p_is_made, E.values, l1, h1, h2, h3, hf]
    | [x], h =>
      have e := kind_of E.toEN n m s x (by omega) hs (h.kid (.tail _ (.head _)))
      simp -implicitDefEqProofs [f_p_is_made, b_p_is_made, E.values, l1, h1, h2, h3, callK_of e, hf]
    | x :: y :: r, h =>
      have q : ¬ ((r.length : Int) + 1 + 1 + 1 = 2) := by omega
      simp -implicitDefEqProofs [f_p_is_made, b_p_is_made, E.values, l1, h1, h2, h3, q, hf]
  rw [if_neg c3]
  rw [decide_eq_false c3] at h3
  by_cases c4 : w ∈ bindW
  · rw [if_pos c4]
    rw [decide_eq_true c4] at h4
    match r, h with
    | [], h => simp -implicitDefEqProofs [f_p_is_made, b_p_is_made, E.values, E.binding, l3, h1, h2, h3, h4, hf]
    | [x], h => simp -implicitDefEqProofs [f_p_is_made, b_p_is_made, E.values, E.binding, l3, h1, h2, h3, h4, hf]
    | [x, y], h => simp -implicitDefEqProofs [f_p_is_made, b_p_is_made, E.values, E.binding, l3, h1, h2, h3, h4, hf]
    | [x, y, z], h =>
      have e := t_is_word E (m := m) (by omega) hs (h.kid (.tail _ (.head _)))
      simp -implicitDefEqProofs [f_p_is_made, b_p_is_made, E.values, E.binding, l3, h1, h2, h3, h4, callK_of e, hf]
    | x :: y :: z :: u :: r, h =>
      have q : ¬ ((r.length : Int) + 1 + 1 + 1 + 1 + 1 = 4) := by omega
      simp -implicitDefEqProofs [f_p_is_made, b_p_is_made, E.values, E.binding, l3, h1, h2, h3, h4, q, hf]
  rw [if_neg c4]
  rw [decide_eq_false c4] at h4
  have e := t_is_rowed E (m := m) (n := n) (by omega) hs h
  have k1 := fun x => kin_str (x := x) (kvs := plainL)
  have k2 := fun x => kix_str (x := x) (kvs := plainL)
  have ef : f_p_is_made c g = f_p_is_made c g := rfl
  cases hl : plainL.lookup w with
  | none =>
    have k3 := k1 w
    rw [hl] at k3
    unfold f_p_is_made b_p_is_made
    simp -implicitDefEqProofs [E.values, E.binding, h1, h2, h3, h4, callK_of e, hl, hf]
  | some i =>
    simp -implicitDefEqProofs [f_p_is_made, b_p_is_made, E.values, E.binding, h1, h2, h3, h4, hl, hf]
    omega
theorem made_word {n : Nat} {w : Str} {r : List D} (h : madeB n w r = true) : w ∈ leafW ∨ w ∈ bindW ∨ w ∈ plnW ∨ w = "record" ∨ w = "field" ∨ w = "case" ∨ w = "tag" ∨ w = "match" := by
  unfold madeB at h
  by_cases c1 : w ∈ simpleW
  · left
    simp only [List.mem_cons, List.not_mem_nil, or_false] at c1 ⊢
    rcases c1 with e | e | e <;> simp [e]
  rw [if_neg c1] at h
  by_cases c2 : w = "name"
  · left; subst c2; decide
  rw [if_neg c2] at h
  by_cases c3 : w = "empty"
  · left; subst c3; decide
  rw [if_neg c3] at h
  by_cases c4 : w ∈ bindW
  · exact .inr (.inl c4)
  rw [if_neg c4] at h
  cases hl : plainL.lookup w with
  | some i =>
    refine .inr (.inr (.inl ?_))
    have : w ∈ plainL.map (·.1) := by
      have e := hl
      clear h hl c1 c2 c3 c4
      generalize plainL = l at e
      induction l with
      | nil => cases e
      | cons p q ih =>
        obtain ⟨k, v⟩ := p
        rw [List.lookup_cons] at e
        split at e
        · rename_i hz
          rw [beq_iff_eq.mp hz]
          exact .head _
        · exact .tail _ (ih e)
    revert this
    have q : ∀ z ∈ plainL.map (·.1), z ∈ plnW := by decide +kernel
    exact q w
  | none =>
    rw [hl] at h
    refine .inr (.inr (.inr ?_))
    unfold rowedB at h
    by_cases d1 : w = "record"
    · exact .inl d1
    rw [if_neg d1] at h
    by_cases d2 : w = "field" ∨ w = "case"
    · rcases d2 with d | d
      · exact .inr (.inl d)
      · exact .inr (.inr (.inl d))
    rw [if_neg d2] at h
    by_cases d3 : w = "tag"
    · exact .inr (.inr (.inr (.inl d3)))
    rw [if_neg d3] at h
    by_cases d4 : w = "match"
    · exact .inr (.inr (.inr (.inr d4)))
    rw [if_neg d4] at h
    cases h
theorem l1_of {f : D → Bool} {r : List D} (h : l1 f r = true) : ∃ x, r = [x] ∧ f x = true := by
  unfold l1 at h
  split at h
  · exact ⟨_, rfl, h⟩
  · cases h
theorem l2_of {f : D → D → Bool} {r : List D} (h : l2 f r = true) : ∃ x y, r = [x, y] ∧ f x y = true := by
  unfold l2 at h
  split at h
  · exact ⟨_, _, rfl, h⟩
  · cases h
theorem l3_of {f : D → D → D → Bool} {r : List D} (h : l3 f r = true) : ∃ x y z, r = [x, y, z] ∧ f x y z = true := by
  unfold l3 at h
  split at h
  · exact ⟨_, _, _, rfl, h⟩
  · cases h
theorem rows_len {q : Int} {x : D} (h : qrowsB q x = true) : ∃ rs, x = .tup rs ∧ ∀ z ∈ rs, ∃ a r, z = .tup (.str a :: r) ∧ ((r.length : Nat) : Int) + 1 = q := by
  cases x with
  | tup rs =>
    refine ⟨rs, rfl, fun z hz => ?_⟩
    have hr := List.all_eq_true.mp (and2 (show (rs.all (qrowB q) && adjB rs) = true from h)).1 z hz
    obtain ⟨a, r, rfl, _⟩ := headq hr
    have ln : (((D.str a :: r).length : Nat) : Int) = q := of_decide_eq_true (and2 (show (decide ((((D.str a :: r).length : Nat) : Int) = q) && nameB (.str a)) = true from hr)).1
    exact ⟨a, r, rfl, by rw [List.length_cons] at ln; omega⟩
  | _ => cases h
theorem partsB_lt {n k : Nat} {w : Str} {r : List D} (h : Od (n + 1) (.tup (.str w :: r))) (hm : madeB k w r = true) : ∀ x ∈ partsB w r, Od n x := by
  have hr : ∀ x ∈ r, Od n x := fun x hx => h.kid (.tail _ hx)
  intro x hx
  unfold partsB at hx
  split at hx
  · cases hx
  · split at hx
    · rename_i e
      subst e
      obtain ⟨y, rfl, hy⟩ := l1_of (show l1 (qrowsB 2) r = true from hm)
      obtain ⟨rs, rfl, hz⟩ := rows_len hy
      obtain ⟨z, hz1, rfl⟩ := List.mem_map.mp hx
      obtain ⟨a, q, rfl, hl⟩ := hz z hz1
      obtain ⟨u, rfl⟩ := one_of (xs := q) (by omega)
      have o1 := (hr _ (.head _)).mono (show n ≤ n - 1 + 1 by omega)
      have o2 := ((o1.kid hz1).mono (show n - 1 ≤ n - 2 + 1 by omega)).kid (.tail _ (.head _))
      exact o2.mono (by omega)
    · split at hx
      · rename_i e
        subst e
        obtain ⟨x0, y, rfl, hy⟩ := l2_of (show l2 (fun _ rs => qrowsB 3 rs && (!unitB rs && (itemsD rs).all sndName)) r = true from hm)
        obtain ⟨rs, rfl, hz⟩ := rows_len (and2 hy).1
        rcases List.mem_cons.mp hx with rfl | hx
        · exact hr _ (.head _)
        · obtain ⟨z, hz1, rfl⟩ := List.mem_map.mp hx
          obtain ⟨a, q, rfl, hl⟩ := hz z hz1
          obtain ⟨u, v, rfl⟩ := two_of (xs := q) (by omega)
          have o1 := (hr _ (.tail _ (.head _))).mono (show n ≤ n - 1 + 1 by omega)
          have o2 := ((o1.kid hz1).mono (show n - 1 ≤ n - 2 + 1 by omega)).kid (.tail _ (.tail _ (.head _)))
          exact o2.mono (by omega)
      · split at hx
        · rename_i e
          have hm2 : l2 (fun _ x => nameB x) r = true := by
            rcases e with rfl | rfl
            · exact hm
            · exact hm
          obtain ⟨x0, y, rfl, hy⟩ := l2_of hm2
          rw [List.mem_singleton.mp hx]
          exact hr _ (.head _)
        · split at hx
          · rename_i e
            subst e
            obtain ⟨x0, y, z, rfl, hy⟩ := l3_of (show l3 (fun k' x _ => kindB k k' && (decide (headS k' = "choice") && nameB x)) r = true from hm)
            rw [List.mem_singleton.mp hx]
            exact hr _ (.tail _ (.tail _ (.head _)))
          · split at hx
            · rename_i e
              have hm2 : l3 (fun x _ _ => nameB x) r = true := by
                simp only [List.mem_cons, List.not_mem_nil, or_false] at e
                rcases e with rfl | rfl | rfl <;> exact hm
              obtain ⟨x0, y, z, rfl, hy⟩ := l3_of hm2
              rcases List.mem_cons.mp hx with rfl | hx
              · exact hr _ (.tail _ (.head _))
              · rw [List.mem_singleton.mp hx]
                exact hr _ (.tail _ (.tail _ (.head _)))
            · exact hr x hx
theorem items_len {n : Nat} {d : D} (h : Od n d) : (itemsD d).length ≤ 1000 := by
  cases d with
  | tup rs => exact h.len
  | _ => exact Nat.zero_le _
theorem partsB_len {n : Nat} {w : Str} {r : List D} (h : Od (n + 1) (.tup (.str w :: r))) : (partsB w r).length ≤ 1001 := by
  have hr : ∀ x ∈ r, Od n x := fun x hx => h.kid (.tail _ hx)
  have hl := h.len
  rw [List.length_cons] at hl
  have h1 : (itemsD (r.headD .non)).length ≤ 1000 := by
    cases r with
    | nil => exact Nat.zero_le _
    | cons a r => exact items_len (hr a (.head _))
  have h2 : (itemsD (r.getD 1 .non)).length ≤ 1000 := by
    match r, hr with
    | [], _ => exact Nat.zero_le _
    | [a], _ => exact Nat.zero_le _
    | a :: b :: r, hr => exact items_len (hr b (.tail _ (.head _)))
  unfold partsB
  split
  · exact Nat.zero_le _
  split
  · rw [List.length_map]; omega
  split
  · rw [List.length_cons, List.length_map]; omega
  split
  · simp
  split
  · simp
  split
  · simp
  · omega
theorem t_partsM (E : EV T c g) {m n k : Nat} {s : Sto} {w : Str} {r : List D} (hm : 1 ≤ m) (hs : Clo s) (h : Od (n + 1) (.tup (.str w :: r))) (hk : madeB k w r = true) : callN T m (c "parts") [.tup (.str w :: r)] s = .ok (.l (partsB w r)) s := by
  obtain ⟨m, rfl⟩ : ∃ k, m = k + 1 := ⟨m - 1, by omega⟩
  have hf := fin_ls (cs := partsB w r) hs (ltAll_mem fun x hx => (partsB_lt h hk x hx).lt)
  rw [call_at E.parts rfl]
  rcases made_word hk with c1 | c1 | c1 | rfl | rfl | rfl | rfl | rfl
  · obtain ⟨q1, _⟩ := wb_of (s := s) (wc_leaf w c1)
    have e : partsB w r = [] := by unfold partsB; rw [if_pos c1]
    rw [e] at hf ⊢
    simp -implicitDefEqProofs [f_p_parts, b_p_parts, E.leaves, q1, hf]
  · obtain ⟨q1, _, q7, _, q2, q3, q4, q5, q6, _⟩ := wb_of (s := s) (wc_bind w c1)
    have hm2 : l3 (fun x _ _ => nameB x) r = true := by
      simp only [List.mem_cons, List.not_mem_nil, or_false] at c1
      rcases c1 with rfl | rfl | rfl <;> exact hk
    obtain ⟨x, y, z, rfl, _⟩ := l3_of hm2
    have e : partsB w [x, y, z] = [y, z] := by
      simp only [List.mem_cons, List.not_mem_nil, or_false] at c1
      rcases c1 with rfl | rfl | rfl <;> rfl
    rw [e] at hf ⊢
    simp -implicitDefEqProofs [f_p_parts, b_p_parts, E.leaves, E.binding, q1, q2, q3, q4, q5, q6, q7, hf]
  · obtain ⟨q1, _, q7, _, q2, q3, q4, q5, q6, _⟩ := wb_of (s := s) (wc_pln w c1)
    have e : partsB w r = r := by
      simp only [List.mem_cons, List.not_mem_nil, or_false] at c1
      rcases c1 with rfl | rfl | rfl | rfl | rfl | rfl | rfl | rfl | rfl | rfl <;> rfl
    rw [e] at hf ⊢
    simp -implicitDefEqProofs [f_p_parts, b_p_parts, E.leaves, E.binding, q1, q2, q3, q4, q5, q6, q7, hf]
  · obtain ⟨x, rfl, hx⟩ := l1_of (show l1 (qrowsB 2) r = true from hk)
    obtain ⟨rs, rfl, hz⟩ := rows_len hx
    have hl := (h.kid (.tail _ (.head _))).len
    obtain ⟨q1, _, _, _, q2, _⟩ := wb_of (s := s) wc_rcd
    have e3 : ∀ K : List D → Sto → Res RD, cpK (.v 2) none (den (callN T m) T.gc .nil).b (den (callN T m) T.gc (.ix (.var 2) (.int 1))).v (wipeL [some (.tup [.str "record", .tup rs]), some (.str "record"), none] [2]) rs [] s K = K (rs.map sndD) s := fun K => by
      rw [cp_all (src := none) (ys := rs.map sndD) trivial (by rw [sizeLine_eq, List.length_nil]; omega)]
      · rfl
      · refine All2.map fun z hz1 K1 K2 => ?_
        obtain ⟨a, q, rfl, hq⟩ := hz z hz1
        obtain ⟨u, rfl⟩ := one_of (xs := q) (by omega)
        simp -implicitDefEqProofs [wipeL, sndD]
    have e : partsB "record" [.tup rs] = rs.map sndD := rfl
    rw [e] at hf ⊢
    generalize rs.map sndD = ys at e3 hf ⊢
    simp -implicitDefEqProofs [f_p_parts, b_p_parts, E.leaves, q1, q2, e3, hf]
  · obtain ⟨x, y, rfl, _⟩ := l2_of (show l2 (fun _ x => nameB x) r = true from hk)
    obtain ⟨q1, _, _, _, q2, q3, q4, _⟩ := wb_of (s := s) wc_fld
    have e : partsB "field" [x, y] = [x] := rfl
    rw [e] at hf ⊢
    simp -implicitDefEqProofs [f_p_parts, b_p_parts, E.leaves, q1, q2, q3, q4, hf]
  · obtain ⟨x, y, rfl, _⟩ := l2_of (show l2 (fun _ x => nameB x) r = true from hk)
    obtain ⟨q1, _, _, _, q2, q3, q4, q5, _⟩ := wb_of (s := s) wc_cas
    have e : partsB "case" [x, y] = [x] := rfl
    rw [e] at hf ⊢
    simp -implicitDefEqProofs [f_p_parts, b_p_parts, E.leaves, q1, q2, q3, q4, q5, hf]
  · obtain ⟨x, y, z, rfl, _⟩ := l3_of (show l3 (fun k' x _ => kindB k k' && (decide (headS k' = "choice") && nameB x)) r = true from hk)
    obtain ⟨q1, _, _, _, q2, q3, q4, q5, q6, _⟩ := wb_of (s := s) wc_tag
    have e : partsB "tag" [x, y, z] = [z] := rfl
    rw [e] at hf ⊢
    simp -implicitDefEqProofs [f_p_parts, b_p_parts, E.leaves, q1, q2, q3, q4, q5, q6, hf]
  · obtain ⟨x, y, rfl, hy⟩ := l2_of (show l2 (fun _ rs => qrowsB 3 rs && (!unitB rs && (itemsD rs).all sndName)) r = true from hk)
    obtain ⟨rs, rfl, hz⟩ := rows_len (and2 hy).1
    have hl := (h.kid (.tail _ (.tail _ (.head _)))).len
    obtain ⟨q1, _, _, _, q2, q3, _⟩ := wb_of (s := s) wc_mat
    have e3 : ∀ K : List D → Sto → Res RD, cpK (.v 2) none (den (callN T m) T.gc .nil).b (den (callN T m) T.gc (.ix (.var 2) (.int 2))).v (wipeL [some (.tup [.str "match", x, .tup rs]), some (.str "match"), none] [2]) rs [] s K = K (rs.map thdD) s := fun K => by
      rw [cp_all (src := none) (ys := rs.map thdD) trivial (by rw [sizeLine_eq, List.length_nil]; omega)]
      · rfl
      · refine All2.map fun z hz1 K1 K2 => ?_
        obtain ⟨a, q, rfl, hq⟩ := hz z hz1
        obtain ⟨u, v, rfl⟩ := two_of (xs := q) (by omega)
        simp -implicitDefEqProofs [wipeL, thdD]
    have e : partsB "match" [x, .tup rs] = [x] ++ rs.map thdD := rfl
    have hl2 : (rs.map thdD).length ≤ 1000 := by rw [List.length_map]; exact hl
    rw [e] at hf ⊢
    generalize rs.map thdD = ys at e3 hf hl2 ⊢
    have hz2 : [x].length + ys.length ≤ sizeLine := by rw [sizeLine_eq]; simp; omega
    have hf : Nv.fin s.length (.l (x :: ys)) s = .ok (.l (x :: ys)) s := hf
    simp -implicitDefEqProofs [f_p_parts, b_p_parts, E.leaves, q1, q2, q3, e3, bin_ll hz2, hf]
def QC (T : Tab) (c : Str → Nat) (n : Nat) : Prop := ∀ (m : Nat) (s : Sto) (d : D), 3 * n + 10 ≤ m → Clo s → Od n d → callN T m (c "is_question") [d] s = .ok (.d (.bl (questB n d))) s
theorem quest_no {n : Nat} {d : D} (h : ∀ w r, d ≠ .tup (.str w :: r)) : questB n d = false := by
  cases n with
  | zero => rfl
  | succ n =>
    show questS n _ d = false
    unfold questS
    split
    · exact absurd rfl (h _ _)
    · rfl
theorem quest_of (E : EV T c g) : ∀ n : Nat, QC T c n
  | 0, m, s, d, hm, hs, h => by
    obtain ⟨m, rfl⟩ : ∃ k, m = k + 1 := ⟨m - 1, by omega⟩
    have hf := fun b => fin_b (b := b) hs
    rw [call_at E.is_question rfl]
    cases d with
    | tup xs => have := h.2; unfold dpt at this; omega
    | obj i => have := h.1; unfold okD at this; cases this
    | _ => simp -implicitDefEqProofs [f_p_is_question, b_p_is_question, questB, hf]
  | n + 1, m, s, d, hm, hs, h => by
    obtain ⟨m, rfl⟩ : ∃ k, m = k + 1 := ⟨m - 1, by omega⟩
    have hf := fun b => fin_b (b := b) hs
    rw [call_at E.is_question rfl]
    cases d with
    | obj i => have := h.1; unfold okD at this; cases this
    | tup xs =>
      have e0 := eq_unit (s := s) (xs := xs)
      cases xs with
      | nil =>
        rw [quest_no fun w r e => by cases e]
        simp -implicitDefEqProofs [f_p_is_question, b_p_is_question, e0, hf]
      | cons a r =>
        have eb : (a :: r).isEmpty = false := rfl
        rw [eb] at e0
        cases a with
        | str w =>
          have e1 := t_is_made E (m := m) (n := n) (by omega) hs h
          have e2 : questB (n + 1) (.tup (.str w :: r)) = (madeB n w r && (partsB w r).all (questB n)) := rfl
          rw [e2]
          cases hk : madeB n w r with
          | false =>
            rw [hk] at e1
            simp -implicitDefEqProofs [f_p_is_question, b_p_is_question, e0, callK_of e1, hf]
          | true =>
            rw [hk] at e1
            have e3 := t_partsM E (m := m) (by omega) hs h hk
            have ho := partsB_lt h hk
            have hz := partsB_len (w := w) h
            have e4 : ∀ K : List D → Sto → Res RD, cpK (.v 1) none (den (callN T m) T.gc .nil).b (den (callN T m) T.gc (.frz (.call (c "is_question") (.cons (.var 1) .nil)))).v (wipeL [some (.tup (.str w :: r)), none] [1]) (partsB w r) [] s K = K ((partsB w r).map fun x => D.bl (questB n x)) s := fun K => by
              rw [cp_all (src := none) (ys := (partsB w r).map fun x => D.bl (questB n x)) trivial (by rw [sizeLine_eq, List.length_nil]; omega)]
              · rfl
              · refine All2.map fun x hx K1 K2 => ?_
                have e5 := quest_of E n m s x (by omega) hs (ho x hx)
                simp -implicitDefEqProofs [wipeL, callK_of e5]
            have e5 := all_map (s := s) (f := questB n) (xs := partsB w r)
            generalize ((partsB w r).map fun x => D.bl (questB n x)) = ys at e4 e5
            simp -implicitDefEqProofs [f_p_is_question, b_p_is_question, e0, callK_of e1, callK_of e3, e4, e5, hf]
        | obj i => have := h.1; simp [okD, okDs] at this
        | _ =>
          rw [quest_no fun w r e => by cases e]
          simp -implicitDefEqProofs [f_p_is_question, b_p_is_question, e0, hf]
    | _ =>
      rw [quest_no fun w r e => by cases e]
      simp -implicitDefEqProofs [f_p_is_question, b_p_is_question, hf]
end Nv.S2

set_option Elab.async false
set_option maxRecDepth 100000
set_option autoImplicit false
set_option linter.all false
set_option maxHeartbeats 4000000
/-! S2q: drawn questions are told to be questions; with a thing that is none at a place, none. No program here, but for the exchange. -/
namespace Nv
open PySem PySem.Spec PyProof.Rows L2 S2
theorem NameOk.b {x : Str} (h : NameOk x) : nameB (.str x) = true := by
  obtain ⟨h1, h2, h3⟩ := h
  show (decide (1 ≤ x.length) && decide (x.length ≤ 8) && x.cps.toList.all fun c => decide (letter c)) = true
  rw [str_len, decide_eq_true h1, decide_eq_true h2, Bool.true_and, Bool.true_and, List.all_eq_true]
  exact fun c hc => decide_eq_true (h3 c hc)
theorem NameOk.len {x : Str} (h : NameOk x) : x.length ≤ 1000 := by rw [str_len]; have := h.2.1; omega
theorem SignsOk.b {x : Str} (h : SignsOk x) : valB "text" (.str x) = true := by
  show (decide (("text" : Str) = "text") && x.cps.toList.all signT) = true
  rw [decide_eq_true rfl, Bool.true_and, List.all_eq_true]
  intro c hc
  obtain ⟨h1, h2, h3⟩ := h.2 c hc
  unfold signT
  rw [decide_eq_true h1, decide_eq_true h2, decide_eq_true h3]; rfl
theorem SignsOk.len {x : Str} (h : SignsOk x) : x.length ≤ 1000 := by rw [str_len]; have := h.1; omega
theorem Od.nm {n : Nat} {x : Str} (h : NameOk x) : Od n (.str x) := od_str h.lv h.len
/-! kinds -/
theorem ksD_len : ∀ rs : Ks, (ksD rs).length = rs.names.length
  | .nil => rfl
  | .cons n k r => by unfold ksD Ks.names; rw [List.length_cons, List.length_cons, ksD_len r]
theorem od_w {n : Nat} {x : Str} (h : lv x) (h2 : x.length ≤ 1000 := by decide +kernel) : Od n (.str x) := od_str h h2
mutual
theorem kD_od : ∀ k : Kd, gk k → Od (3 * dep k + 1) (kD k)
  | .leaf x, h => by
    refine od_tup (n := 0) (fun d hd => ?_) (by simp)
    rw [List.mem_singleton.mp hd]
    have h : x ∈ (["number", "text", "truth"] : List Str) := h
    simp only [List.mem_cons, List.not_mem_nil, or_false] at h
    rcases h with rfl | rfl | rfl
    · exact od_w lv_num
    · exact od_w lv_txt
    · exact od_w lv_tru
  | .bag k, h => by
    have e : 3 * dep (.bag k) + 1 = (3 * dep k + 3) + 1 := by show 3 * (dep k + 1) + 1 = _; omega
    rw [e]
    refine od_tup (fun d hd => ?_) (by simp)
    rcases List.mem_cons.mp hd with e | hd
    · subst e; exact od_w lv_bag
    · rw [List.mem_singleton.mp hd]; exact (kD_od k h).mono (by omega)
  | .rcd rs, h => by
    have e : 3 * dep (.rcd rs) + 1 = ((3 * deps rs + 2) + 1) + 1 := by show 3 * (deps rs + 1) + 1 = _; omega
    rw [e]
    refine od_tup (fun d hd => ?_) (by simp)
    rcases List.mem_cons.mp hd with e | hd
    · subst e; exact od_w lv_rcd
    · rw [List.mem_singleton.mp hd]
      exact od_tup (ksD_od rs h.1) (by rw [ksD_len]; have := h.2.2; omega)
  | .cho rs, h => by
    have e : 3 * dep (.cho rs) + 1 = ((3 * deps rs + 2) + 1) + 1 := by show 3 * (deps rs + 1) + 1 = _; omega
    rw [e]
    refine od_tup (fun d hd => ?_) (by simp)
    rcases List.mem_cons.mp hd with e | hd
    · subst e; exact od_w lv_cho
    · rw [List.mem_singleton.mp hd]
      exact od_tup (ksD_od rs h.1) (by rw [ksD_len]; have := h.2.2.2.2; omega)
theorem ksD_od : ∀ rs : Ks, gks rs → ∀ d ∈ ksD rs, Od (3 * deps rs + 2) d
  | .nil, _, d, hd => by unfold ksD at hd; cases hd
  | .cons n k r, h, d, hd => by
    obtain ⟨h1, h2, h3⟩ := h
    have hm : deps (.cons n k r) = max (dep k) (deps r) := rfl
    unfold ksD at hd
    rcases List.mem_cons.mp hd with e | hd
    · rw [e]
      refine od_tup (n := 3 * deps (.cons n k r) + 1) (fun x hx => ?_) (by simp)
      rcases List.mem_cons.mp hx with e | hx
      · rw [e]; exact .nm h1
      · rw [List.mem_singleton.mp hx]; exact (kD_od k h2).mono (by omega)
    · exact (ksD_od r h3 d hd).mono (by omega)
end
theorem adj_srt : ∀ rs : Ks, Srt rs.names → adjB (ksD rs) = true
  | .nil, _ => rfl
  | .cons n k .nil, _ => rfl
  | .cons n k (.cons m j r), h => by
    have h : Srt (n :: m :: r.names) := h
    obtain ⟨h1, h2⟩ := List.pairwise_cons.mp h
    have i := adj_srt (.cons m j r) h2
    show (decide (n.cps.toList < m.cps.toList) && adjB (ksD (.cons m j r))) = true
    rw [i, decide_eq_true (show n.cps.toList < m.cps.toList from h1 m (.head _))]; rfl
mutual
theorem flat_b : ∀ (n : Nat) (k : Kd), dpt (kD k) ≤ n → gk k → flatK k → flatB n (kD k) = true
  | n, .leaf x, hn, h, _ => by
    obtain ⟨n, rfl⟩ : ∃ j, n = j + 1 := by cases n with | zero => unfold kD dpt at hn; omega | succ j => exact ⟨j, rfl⟩
    have h : x ∈ simpleW := h
    have hb : x ≠ "bag" := fun e => by subst e; exact absurd h (by decide)
    unfold kD
    rw [flatB_eq, if_neg hb, if_pos h]
  | n, .bag k, _, _, h => h.elim
  | n, .rcd rs, hn, h, hf => by
    obtain ⟨n, rfl⟩ : ∃ j, n = j + 1 := by cases n with | zero => unfold kD dpt at hn; omega | succ j => exact ⟨j, rfl⟩
    have e : flatB (n + 1) (kD (.rcd rs)) = (ksD rs).all (flatRow (flatB n)) := rfl
    rw [e]
    exact flats_b n rs (by unfold kD dpt dpts dpts dpt at hn; simp [dpts, dpt] at hn; omega) h.1 hf
  | n, .cho rs, hn, h, hf => by
    obtain ⟨n, rfl⟩ : ∃ j, n = j + 1 := by cases n with | zero => unfold kD dpt at hn; omega | succ j => exact ⟨j, rfl⟩
    have e : flatB (n + 1) (kD (.cho rs)) = (ksD rs).all (flatRow (flatB n)) := rfl
    rw [e]
    exact flats_b n rs (by unfold kD dpt dpts dpts dpt at hn; simp [dpts, dpt] at hn; omega) h.1 hf
theorem flats_b : ∀ (n : Nat) (rs : Ks), dpts (ksD rs) ≤ n → gks rs → flatKs rs → (ksD rs).all (flatRow (flatB n)) = true
  | _, .nil, _, _, _ => rfl
  | n, .cons x k r, hn, h, hf => by
    obtain ⟨h1, h2, h3⟩ := h
    unfold ksD at hn ⊢
    simp [dpts, dpt] at hn
    rw [List.all_cons, flats_b n r (by omega) h3 hf.2, Bool.and_true]
    exact flat_b n k (by omega) h2 hf.1
end
mutual
theorem kind_b : ∀ (n : Nat) (k : Kd), dpt (kD k) ≤ n → gk k → kindB n (kD k) = true
  | n, .leaf x, hn, h => by
    obtain ⟨n, rfl⟩ : ∃ j, n = j + 1 := by cases n with | zero => unfold kD dpt at hn; omega | succ j => exact ⟨j, rfl⟩
    have h : x ∈ simpleW := h
    unfold kD
    rw [kindB_eq, if_pos h]; rfl
  | n, .bag k, hn, h => by
    obtain ⟨n, rfl⟩ : ∃ j, n = j + 1 := by cases n with | zero => unfold kD dpt at hn; omega | succ j => exact ⟨j, rfl⟩
    have e : kindB (n + 1) (kD (.bag k)) = kindB n (kD k) := rfl
    rw [e]
    exact kind_b n k (by unfold kD at hn; simp [dpts, dpt] at hn; omega) h
  | n, .rcd rs, hn, h => by
    obtain ⟨n, rfl⟩ : ∃ j, n = j + 1 := by cases n with | zero => unfold kD dpt at hn; omega | succ j => exact ⟨j, rfl⟩
    have e : kindB (n + 1) (kD (.rcd rs)) = ((ksD rs).all (krowB (kindB n)) && adjB (ksD rs)) := rfl
    rw [e, adj_srt rs h.2.1, Bool.and_true]
    exact kinds_b n rs (by unfold kD at hn; simp [dpts, dpt] at hn; omega) h.1
  | n, .cho rs, hn, h => by
    obtain ⟨n, rfl⟩ : ∃ j, n = j + 1 := by cases n with | zero => unfold kD dpt at hn; omega | succ j => exact ⟨j, rfl⟩
    have e : kindB (n + 1) (kD (.cho rs)) = (((ksD rs).all (krowB (kindB n)) && adjB (ksD rs)) && (!unitB (.tup (ksD rs)) && flatB (n + 1) (kD (.cho rs)))) := rfl
    have hu : unitB (.tup (ksD rs)) = false := by
      cases rs with
      | nil => exact absurd rfl h.2.2.2.1
      | cons x k r => rfl
    rw [e, adj_srt rs h.2.1, Bool.and_true, hu, flat_b (n + 1) (.cho rs) hn h h.2.2.1]
    rw [kinds_b n rs (by unfold kD at hn; simp [dpts, dpt] at hn; omega) h.1]
    rfl
theorem kinds_b : ∀ (n : Nat) (rs : Ks), dpts (ksD rs) ≤ n → gks rs → (ksD rs).all (krowB (kindB n)) = true
  | _, .nil, _, _ => rfl
  | n, .cons x k r, hn, h => by
    obtain ⟨h1, h2, h3⟩ := h
    unfold ksD at hn ⊢
    simp [dpts, dpt] at hn
    rw [List.all_cons, kinds_b n r (by omega) h3, Bool.and_true]
    show (nameB (.str x) && kindB n (kD k)) = true
    rw [h1.b, kind_b n k (by omega) h2]; rfl
end
/-! heads with any parts -/
theorem zw_map {α β γ δ : Type} {f : α → β → γ} {h : γ → δ} : ∀ {xs : List α} {ys : List β}, (List.zipWith f xs ys).map h = List.zipWith (fun a b => h (f a b)) xs ys
  | [], _ => by simp
  | _ :: _, [] => by simp
  | a :: xs, b :: ys => by rw [List.zipWith_cons_cons, List.map_cons, List.zipWith_cons_cons, zw_map]
theorem zw_snd {α : Type} : ∀ {ns : List α} {cs : List D}, ns.length = cs.length → List.zipWith (fun _ c => c) ns cs = cs
  | [], [], _ => rfl
  | [], _ :: _, h => by cases h
  | _ :: _, [], h => by cases h
  | a :: ns, b :: cs, h => by rw [List.zipWith_cons_cons, zw_snd (by simpa using h)]
def hdW : Hd → Str
  | .leaf w _ => w
  | .rcd _ => "record"
  | .mat _ => "match"
  | .fld w _ => w
  | .tag _ _ => "tag"
  | .bnd w _ => w
  | .pln w => w
def hdR : Hd → List D → List D
  | .leaf _ d, _ => [d]
  | .rcd ns, cs => [.tup (List.zipWith (fun n c => D.tup [.str n, c]) ns cs)]
  | .mat ns, cs => [cs.headD .non, .tup (List.zipWith (fun (n : Str × Str) c => D.tup [.str n.1, .str n.2, c]) ns cs.tail)]
  | .fld _ n, cs => [cs.headD .non, .str n]
  | .tag k n, cs => [.tup (.str "choice" :: k), .str n, cs.headD .non]
  | .bnd _ n, cs => .str n :: cs
  | .pln _, cs => cs
theorem mkD_eq (h : Hd) (cs : List D) : mkD h cs = .tup (.str (hdW h) :: hdR h cs) := by cases h <;> rfl
theorem parts_mk {h : Hd} {cs : List D} (f : fits h cs.length) : partsB (hdW h) (hdR h cs) = cs := by
  cases h with
  | leaf w d =>
    obtain ⟨f1, f2, _⟩ := f
    have : cs = [] := List.eq_nil_of_length_eq_zero f1
    subst this
    unfold partsB hdW
    rw [if_pos f2]
  | rcd ns =>
    have e : partsB (hdW (.rcd ns)) (hdR (.rcd ns) cs) = (List.zipWith (fun n c => D.tup [.str n, c]) ns cs).map sndD := rfl
    rw [e, zw_map]
    exact zw_snd f.1.symm
  | mat ns =>
    match cs, f with
    | c0 :: cs, f =>
      have e : partsB (hdW (.mat ns)) (hdR (.mat ns) (c0 :: cs)) = c0 :: (List.zipWith (fun (n : Str × Str) c => D.tup [.str n.1, .str n.2, c]) ns cs).map thdD := rfl
      rw [e, zw_map]
      refine congrArg _ (zw_snd ?_)
      have := f.1
      rw [List.length_cons] at this
      omega
  | fld w n =>
    obtain ⟨f1, f2, _⟩ := f
    obtain ⟨c0, rfl⟩ := one_of f1
    simp only [List.mem_cons, List.not_mem_nil, or_false] at f2
    rcases f2 with rfl | rfl <;> rfl
  | tag k n =>
    obtain ⟨f1, _⟩ := f
    obtain ⟨c0, rfl⟩ := one_of f1
    rfl
  | bnd w n =>
    obtain ⟨f1, f2, _⟩ := f
    obtain ⟨c0, c1, rfl⟩ := two_of f1
    simp only [List.mem_cons, List.not_mem_nil, or_false] at f2
    rcases f2 with rfl | rfl | rfl <;> rfl
  | pln w =>
    obtain ⟨_, _, f2⟩ := f
    simp only [List.mem_cons, List.not_mem_nil, or_false] at f2
    rcases f2 with rfl | rfl | rfl | rfl | rfl | rfl | rfl | rfl | rfl | rfl <;> rfl
theorem zw_all {α : Type} {f : α → D → D} {p : D → Bool} : ∀ {ns : List α} {cs : List D}, (∀ n ∈ ns, ∀ c ∈ cs, p (f n c) = true) → (List.zipWith f ns cs).all p = true
  | [], _, _ => by simp
  | _ :: _, [], _ => by simp
  | n :: ns, c :: cs, h => by
    rw [List.zipWith_cons_cons, List.all_cons, h n (.head _) c (.head _), zw_all fun a ha b hb => h a (.tail _ ha) b (.tail _ hb)]; rfl
theorem zw_adj {α : Type} {f : α → D → D} {nm : α → Str} (hf : ∀ n c, headS (f n c) = nm n) : ∀ {ns : List α} {cs : List D}, Srt (ns.map nm) → adjB (List.zipWith f ns cs) = true
  | [], _, _ => by simp [adjB, adjL]
  | _ :: _, [], _ => by simp [adjB, adjL]
  | [n], [c], _ => rfl
  | [n], c :: _ :: _, _ => rfl
  | n :: m :: ns, [c], _ => rfl
  | n :: m :: ns, c :: e :: cs, h => by
    have h : Srt (nm n :: nm m :: ns.map nm) := h
    obtain ⟨h1, h2⟩ := List.pairwise_cons.mp h
    have i := zw_adj hf (ns := m :: ns) (cs := e :: cs) h2
    show (decide ((headS (f n c)).cps.toList < (headS (f m e)).cps.toList) && adjB (List.zipWith f (m :: ns) (e :: cs))) = true
    rw [i, hf, hf, decide_eq_true (show (nm n).cps.toList < (nm m).cps.toList from h1 (nm m) (.head _))]; rfl
theorem made_mk {k : Nat} {h : Hd} {cs : List D} (f : fits h cs.length) (g : ghd h cs.length) (hk : ∀ x ∈ hdR h cs, dpt x ≤ k) : madeB k (hdW h) (hdR h cs) = true := by
  cases h with
  | leaf w d =>
    obtain ⟨f1, f2, _⟩ := f
    rcases g with ⟨rfl, i, rfl, _⟩ | ⟨rfl, x, rfl, hx⟩ | ⟨rfl, b, rfl⟩ | ⟨rfl, kk, rfl, h1, h2⟩ | ⟨rfl, x, rfl, hx⟩
    · rfl
    · exact hx.b
    · rfl
    · exact kind_b k kk (hk _ (.head _)) h1
    · exact hx.b
  | rcd ns =>
    obtain ⟨g1, g2⟩ := g
    have e : madeB k (hdW (.rcd ns)) (hdR (.rcd ns) cs) = ((List.zipWith (fun n c => D.tup [.str n, c]) ns cs).all (qrowB 2) && adjB (List.zipWith (fun n c => D.tup [.str n, c]) ns cs)) := rfl
    rw [e, zw_adj (nm := id) (fun n c => rfl) (by rw [List.map_id]; exact g1), Bool.and_true]
    refine zw_all fun n hn c _ => ?_
    show (true && nameB (.str n)) = true
    rw [(g2 n hn).b]; rfl
  | mat ns =>
    obtain ⟨g0, g1, g2⟩ := g
    match cs, f with
    | c0 :: cs, f =>
      have hl : ns.length = cs.length := by
        have := f.1
        rw [List.length_cons] at this
        omega
      have e : madeB k (hdW (.mat ns)) (hdR (.mat ns) (c0 :: cs)) = (((List.zipWith (fun (n : Str × Str) c => D.tup [.str n.1, .str n.2, c]) ns cs).all (qrowB 3) && adjB (List.zipWith (fun (n : Str × Str) c => D.tup [.str n.1, .str n.2, c]) ns cs)) &&
        (!unitB (.tup (List.zipWith (fun (n : Str × Str) c => D.tup [.str n.1, .str n.2, c]) ns cs)) && (List.zipWith (fun (n : Str × Str) c => D.tup [.str n.1, .str n.2, c]) ns cs).all sndName)) := rfl
      have hu : unitB (.tup (List.zipWith (fun (n : Str × Str) c => D.tup [.str n.1, .str n.2, c]) ns cs)) = false := by
        match ns, cs, g0, hl with
        | [], _, g0, _ => exact absurd rfl g0
        | _ :: _, [], _, hl => cases hl
        | _ :: _, _ :: _, _, _ => rfl
      rw [e, hu, zw_adj (nm := fun n : Str × Str => n.1) (fun n c => rfl) g1, Bool.and_true]
      have z1 : (List.zipWith (fun (n : Str × Str) c => D.tup [.str n.1, .str n.2, c]) ns cs).all (qrowB 3) = true := zw_all fun n hn c _ => by
        show (true && nameB (.str n.1)) = true
        rw [(g2 n hn).1.b]; rfl
      have z2 : (List.zipWith (fun (n : Str × Str) c => D.tup [.str n.1, .str n.2, c]) ns cs).all sndName = true := zw_all fun n hn c _ => (g2 n hn).2.b
      rw [z1, z2]
      rfl
  | fld w n =>
    obtain ⟨f1, f2, _⟩ := f
    obtain ⟨c0, rfl⟩ := one_of f1
    have g : NameOk n := g
    simp only [List.mem_cons, List.not_mem_nil, or_false] at f2
    rcases f2 with rfl | rfl
    · exact g.b
    · exact g.b
  | tag kk n =>
    obtain ⟨f1, _⟩ := f
    obtain ⟨c0, rfl⟩ := one_of f1
    obtain ⟨g1, rs, rfl, g2, _⟩ := g
    have e : madeB k (hdW (.tag [D.tup (ksD rs)] n)) (hdR (.tag [D.tup (ksD rs)] n) [c0]) = (kindB k (kD (.cho rs)) && (true && nameB (.str n))) := rfl
    rw [e, kind_b k (.cho rs) (hk _ (.head _)) g2, g1.b]; rfl
  | bnd w n =>
    obtain ⟨f1, f2, _⟩ := f
    obtain ⟨c0, c1, rfl⟩ := two_of f1
    have g : NameOk n := g
    simp only [List.mem_cons, List.not_mem_nil, or_false] at f2
    rcases f2 with rfl | rfl | rfl
    · exact g.b
    · exact g.b
    · exact g.b
  | pln w =>
    obtain ⟨_, _, f2⟩ := f
    have g : cs.length = arity w := g
    simp only [List.mem_cons, List.not_mem_nil, or_false] at f2
    have e : ∀ w ∈ plnW, plainL.lookup w = some (arity w : Int) := by decide +kernel
    have e2 : ∀ w ∈ plnW, w ∉ simpleW ∧ w ≠ "name" ∧ w ≠ "empty" ∧ w ∉ bindW := by decide +kernel
    have hw : w ∈ plnW := by simp only [List.mem_cons, List.not_mem_nil, or_false]; exact f2
    obtain ⟨q1, q2, q3, q4⟩ := e2 w hw
    show madeB k w cs = true
    unfold madeB
    rw [if_neg q1, if_neg q2, if_neg q3, if_neg q4, e w hw]
    exact decide_eq_true (by rw [g])
/-- drawn questions may be handed to the tests -/
theorem hd_od {n : Nat} {h : Hd} {cs : List D} (f : fits h cs.length) (g : ghd h cs.length) (hn : 8 ≤ n) (hc : ∀ x ∈ cs, Od n x) : Od (n + 3) (mkD h cs) := by
  cases h with
  | leaf w d =>
    obtain ⟨f1, f2, _⟩ := f
    refine (od_tup (n := n) (fun x hx => ?_) (by show (2 : Nat) ≤ 1000; decide)).mono (by omega)
    rcases List.mem_cons.mp hx with rfl | hx
    · simp only [List.mem_cons, List.not_mem_nil, or_false] at f2
      rcases f2 with rfl | rfl | rfl | rfl | rfl <;> exact od_str (by unfold lv; decide +kernel) (by decide +kernel)
    · rw [List.mem_singleton.mp hx]
      rcases g with ⟨_, i, rfl, _⟩ | ⟨_, x, rfl, gx⟩ | ⟨_, b, rfl⟩ | ⟨_, kk, rfl, h1, h2⟩ | ⟨_, x, rfl, gx⟩
      · exact ⟨rfl, Nat.zero_le _⟩
      · exact od_str gx.lv gx.len
      · exact ⟨rfl, Nat.zero_le _⟩
      · exact (kD_od kk h1).mono (by omega)
      · exact .nm gx
  | rcd ns =>
    obtain ⟨g1, g2⟩ := g
    obtain ⟨f1, f2, _⟩ := f
    refine od_tup (n := n + 2) (fun x hx => ?_) (by show (2 : Nat) ≤ 1000; decide)
    rcases List.mem_cons.mp hx with rfl | hx
    · exact od_w lv_rcd
    · rw [List.mem_singleton.mp hx]
      refine od_tup (n := n + 1) (fun y hy => ?_) (by rw [List.length_zipWith]; omega)
      obtain ⟨a, ha, b, hb, rfl⟩ := zw_mem hy
      refine od_tup (n := n) (fun z hz => ?_) (by show (2 : Nat) ≤ 1000; decide)
      rcases List.mem_cons.mp hz with rfl | hz
      · exact .nm (g2 a ha)
      · rw [List.mem_singleton.mp hz]; exact hc b hb
  | mat ns =>
    obtain ⟨g0, g1, g2⟩ := g
    match cs, f, hc with
    | c0 :: cs, f, hc =>
      obtain ⟨f1, f2, _⟩ := f
      refine od_tup (n := n + 2) (fun x hx => ?_) (by show (3 : Nat) ≤ 1000; decide)
      rcases List.mem_cons.mp hx with rfl | hx
      · exact od_w (by unfold lv; decide +kernel)
      rcases List.mem_cons.mp hx with rfl | hx
      · exact (hc _ (.head _)).mono (by omega)
      · rw [List.mem_singleton.mp hx]
        refine od_tup (n := n + 1) (fun y hy => ?_) (by rw [List.length_zipWith]; rw [List.length_cons] at f2; simp only [List.tail_cons]; omega)
        obtain ⟨a, ha, b, hb, rfl⟩ := zw_mem hy
        refine od_tup (n := n) (fun z hz => ?_) (by show (3 : Nat) ≤ 1000; decide)
        rcases List.mem_cons.mp hz with rfl | hz
        · exact .nm (g2 a ha).1
        rcases List.mem_cons.mp hz with rfl | hz
        · exact .nm (g2 a ha).2
        · rw [List.mem_singleton.mp hz]; exact hc b (.tail _ hb)
  | fld w nm =>
    obtain ⟨f1, f2, _⟩ := f
    obtain ⟨c0, rfl⟩ := one_of f1
    have g : NameOk nm := g
    refine (od_tup (n := n) (fun x hx => ?_) (by show (3 : Nat) ≤ 1000; decide)).mono (by omega)
    rcases List.mem_cons.mp hx with rfl | hx
    · simp only [List.mem_cons, List.not_mem_nil, or_false] at f2
      rcases f2 with rfl | rfl <;> exact od_str (by unfold lv; decide +kernel) (by decide +kernel)
    rcases List.mem_cons.mp hx with rfl | hx
    · exact hc _ (.head _)
    · rw [List.mem_singleton.mp hx]; exact .nm g
  | tag k nm =>
    obtain ⟨f1, _⟩ := f
    obtain ⟨c0, rfl⟩ := one_of f1
    obtain ⟨g1, rs, rfl, g2, g3⟩ := g
    refine (od_tup (n := n) (fun x hx => ?_) (by show (4 : Nat) ≤ 1000; decide)).mono (by omega)
    rcases List.mem_cons.mp hx with rfl | hx
    · exact od_w (by unfold lv; decide +kernel)
    rcases List.mem_cons.mp hx with rfl | hx
    · have := kD_od (.cho rs) g2
      unfold kD at this
      exact this.mono (by omega)
    rcases List.mem_cons.mp hx with rfl | hx
    · exact .nm g1
    · rw [List.mem_singleton.mp hx]; exact hc _ (.head _)
  | bnd w nm =>
    obtain ⟨f1, f2, _⟩ := f
    have g : NameOk nm := g
    refine (od_tup (n := n) (fun x hx => ?_) (by show (List.length (_ :: _ :: cs)) ≤ 1000; rw [List.length_cons, List.length_cons]; omega)).mono (by omega)
    rcases List.mem_cons.mp hx with rfl | hx
    · simp only [List.mem_cons, List.not_mem_nil, or_false] at f2
      rcases f2 with rfl | rfl | rfl <;> exact od_str (by unfold lv; decide +kernel) (by decide +kernel)
    rcases List.mem_cons.mp hx with rfl | hx
    · exact .nm g
    · exact hc x hx
  | pln w =>
    obtain ⟨f0, f1, f2⟩ := f
    refine (od_tup (n := n) (fun x hx => ?_) (by show (List.length (_ :: cs)) ≤ 1000; rw [List.length_cons]; omega)).mono (by omega)
    rcases List.mem_cons.mp hx with rfl | hx
    · simp only [List.mem_cons, List.not_mem_nil, or_false] at f2
      rcases f2 with rfl | rfl | rfl | rfl | rfl | rfl | rfl | rfl | rfl | rfl <;> exact od_str (by unfold lv; decide +kernel) (by decide +kernel)
    · exact hc x hx
theorem gq_od : ∀ {n : Nat} {q : Q}, gq n q → Od (3 * n + 8) q.toD
  | 0, _, h => h.elim
  | n + 1, q, ⟨f, g, k⟩ => by
    rw [toD_node]
    have hl : (q.kids.map Q.toD).length = q.kids.length := List.length_map _
    have h := hd_od (n := 3 * n + 8) (h := q.hd) (cs := q.kids.map Q.toD) (by rw [hl]; exact f) (by rw [hl]; exact g) (by omega) fun x hx => by
      obtain ⟨c, hc, rfl⟩ := List.mem_map.mp hx
      exact gq_od (k c hc)
    exact h.mono (by omega)
theorem quest_mk {n : Nat} {h : Hd} {cs : List D} (f : fits h cs.length) : questB (n + 1) (mkD h cs) = (madeB n (hdW h) (hdR h cs) && cs.all (questB n)) := by
  rw [mkD_eq]
  show (madeB n (hdW h) (hdR h cs) && (partsB (hdW h) (hdR h cs)).all (questB n)) = _
  rw [parts_mk f]
theorem gq_b : ∀ {n m : Nat} {q : Q}, gq m q → dpt q.toD ≤ n → questB n q.toD = true
  | 0, m, q, h, hn => by
    rw [toD_node, mkD_eq] at hn
    unfold dpt at hn; omega
  | n + 1, 0, q, h, _ => h.elim
  | n + 1, m + 1, q, ⟨f, g, k⟩, hn => by
    rw [toD_node] at hn ⊢
    have hl : (q.kids.map Q.toD).length = q.kids.length := List.length_map _
    have f' : fits q.hd (q.kids.map Q.toD).length := by rw [hl]; exact f
    have g' : ghd q.hd (q.kids.map Q.toD).length := by rw [hl]; exact g
    rw [quest_mk f']
    rw [mkD_eq] at hn
    have hr : ∀ x ∈ hdR q.hd (q.kids.map Q.toD), dpt x ≤ n := fun x hx => by
      have h1 := dpts_mem (xs := D.str (hdW q.hd) :: hdR q.hd (q.kids.map Q.toD)) (.tail _ hx)
      unfold dpt at hn
      omega
    rw [made_mk f' g' hr, Bool.true_and, List.all_eq_true]
    intro x hx
    obtain ⟨c, hc, rfl⟩ := List.mem_map.mp hx
    refine gq_b (k c hc) ?_
    -- a part lies within the rest
    have hp : ∀ y ∈ partsB (hdW q.hd) (hdR q.hd (q.kids.map Q.toD)), dpt y ≤ n := fun y hy => by
      have od : Od (max (n + 1) (3 * (m + 1) + 8)) (.tup (.str (hdW q.hd) :: hdR q.hd (q.kids.map Q.toD))) := by
        rw [← mkD_eq, ← toD_node]
        exact (gq_od (n := m + 1) ⟨f, g, k⟩).mono (Nat.le_max_right _ _)
      have od2 : Od (n + 1) (.tup (.str (hdW q.hd) :: hdR q.hd (q.kids.map Q.toD))) := ⟨od.1, hn⟩
      exact (partsB_lt od2 (made_mk f' g' hr) y hy).2
    exact hp _ (by rw [parts_mk f']; exact hx)
/-- a question with any thing at a place -/
def putX (x : D) : Q → List Nat → D
  | _, [] => x
  | q, i :: p => match q.kids[i]? with
    | some c => mkD q.hd ((q.kids.map Q.toD).set i (putX x c p))
    | none => q.toD
theorem putX_cons {x : D} {q c : Q} {i : Nat} {p : List Nat} (h : q.kids[i]? = some c) : putX x q (i :: p) = mkD q.hd ((q.kids.map Q.toD).set i (putX x c p)) := by
  rw [putX]; rw [h]
theorem putX_no {x : D} (hx : ∀ n, questB n x = false) : ∀ {p : List Nat} {q c : Q} {m n : Nat}, gq m q → getAt q p = some c → questB n (putX x q p) = false
  | [], q, c, m, n, _, _ => hx n
  | i :: p, q, c, 0, n, h, _ => h.elim
  | i :: p, q, c, m + 1, 0, h, g => rfl
  | i :: p, q, c, m + 1, n + 1, ⟨f, gh, k⟩, g => by
    obtain ⟨d, e, g⟩ := getAt_cons g
    rw [putX_cons e]
    have hl : ((q.kids.map Q.toD).set i (putX x d p)).length = q.kids.length := by rw [List.length_set, List.length_map]
    rw [quest_mk (by rw [hl]; exact f)]
    have hi : i < ((q.kids.map Q.toD).set i (putX x d p)).length := by rw [hl]; exact (List.getElem?_eq_some_iff.mp e).1
    have : ((q.kids.map Q.toD).set i (putX x d p)).all (questB n) = false := by
      rw [List.all_eq_false]
      refine ⟨putX x d p, List.mem_of_getElem? (i := i) ?_, ?_⟩
      · exact List.getElem?_set_self (by rw [List.length_set] at hi; exact hi)
      · rw [putX_no hx (k d (List.mem_of_getElem? e)) g]; simp
    rw [this, Bool.and_false]
theorem putX_od {x : D} {a : Nat} (hx : Od a x) : ∀ {p : List Nat} {q c : Q} {m : Nat}, gq m q → getAt q p = some c → Od (3 * m + 8 + a) (putX x q p)
  | [], q, c, m, _, _ => hx.mono (by omega)
  | i :: p, q, c, 0, h, _ => h.elim
  | i :: p, q, c, m + 1, ⟨f, gh, k⟩, g => by
    obtain ⟨d, e, g⟩ := getAt_cons g
    rw [putX_cons e]
    have hl : ((q.kids.map Q.toD).set i (putX x d p)).length = q.kids.length := by rw [List.length_set, List.length_map]
    have ih := putX_od hx (k d (List.mem_of_getElem? e)) g
    refine (hd_od (n := 3 * m + 8 + a) (by rw [hl]; exact f) (by rw [hl]; exact gh) (by omega) fun y hy => ?_).mono (by omega)
    rcases List.mem_or_eq_of_mem_set hy with z | z
    · obtain ⟨b, hb, rfl⟩ := List.mem_map.mp z
      exact (gq_od (k b hb)).mono (by omega)
    · rw [z]; exact ih
end Nv

set_option Elab.async false
set_option maxRecDepth 100000
set_option autoImplicit false
set_option linter.all false
set_option maxHeartbeats 4000000
/-! S2r: the exchange with any thing -/
namespace Nv.S2
open PySem PySem.Spec PyProof.Rows L2
variable {T : Tab} {c g : Str → Nat}
theorem putX_lt {x : D} (hx : ∀ n, x.lt n = true) {k : Nat} : ∀ {p : List Nat} {q d : Q} {n : Nat}, Q.ok n q → getAt q p = some d → (putX x q p).lt k = true
  | [], _, _, _, _, _ => hx k
  | i :: p, q, d, 0, h, _ => h.elim
  | i :: p, q, d, n + 1, ⟨f, hk⟩, g => by
    obtain ⟨e, e1, g⟩ := getAt_cons g
    rw [putX_cons e1]
    refine mk_lt (by rw [List.length_set, List.length_map]; exact f) (ltAll_mem fun y hy => ?_)
    rcases List.mem_or_eq_of_mem_set hy with z | z
    · exact lt_mem (oks_lt hk) z
    · rw [z]; exact putX_lt hx (hk e (List.mem_of_getElem? e1)) g
theorem t_law_withX (E : EP T c g) (hw : T.fns[c "_law_with"]? = some (f_with c g)) {ox : D} (hox : ∀ n, ox.lt n = true) : ∀ {p : List Nat} {q d : Q} {n m : Nat} {s : Sto}, p.length + 1 ≤ m → Clo s → Q.ok n q → getAt q p = some d → callN T m (c "_law_with") [q.toD, plD p, ox] s = .ok (.d (putX ox q p)) s
  | [], q, d, n, m, s, hm, hs, hq, e => by
    obtain ⟨m, rfl⟩ : ∃ k, m = k + 1 := ⟨m - 1, by omega⟩
    have hf := fin_d hs (hox s.length)
    have h1 := pl_eq (s := s) []
    rw [call_at hw rfl]
    simp -implicitDefEqProofs [f_with, b_with, h1, putX, hf]
  | i :: p, q, d, n, m, s, hm, hs, hq, e => by
    obtain ⟨m, rfl⟩ : ∃ k, m = k + 1 := ⟨m - 1, by omega⟩
    rw [List.length_cons] at hm
    obtain ⟨x, e1, e2⟩ := getAt_cons e
    have hx : Q.ok n x := ok_get (p := [i]) hq (by show (q.kids[i]?).bind _ = _; rw [e1]; rfl)
    have hlt := (List.getElem?_eq_some_iff.mp e1).1
    have hr : ∀ n, (putX ox q (i :: p)).lt n = true := fun n => putX_lt hox hq e
    obtain ⟨n', rfl⟩ : ∃ k, n = k + 1 := by cases n with
      | zero => exact hq.elim
      | succ k => exact ⟨k, rfl⟩
    have h0 := pl_eq (s := s) (i :: p)
    have hcut : (plD (i :: p)) = .tup (.int i :: p.map fun i : Nat => D.int i) := rfl
    have hcp : D.tup (p.map fun i : Nat => D.int i) = plD p := rfl
    have ih : ∀ s1 : Sto, Clo s1 → callN T m (c "_law_with") [x.toD, plD p, ox] s1 = .ok (.d (putX ox x p)) s1 := fun s1 hs1 => t_law_withX E hw hox (by omega) hs1 hx e2
    have hres : putX ox q (i :: p) = mkD q.hd ((q.kids.map Q.toD).set i (putX ox x p)) := putX_cons e1
    have hf : ∀ gg, Nv.fin s.length (.d (putX ox q (i :: p))) (s ++ gg) = .ok (.d (putX ox q (i :: p))) s := fun gg => fin_g hs (hr s.length)
    have hf0 : Nv.fin s.length (.d (putX ox q (i :: p))) s = .ok (.d (putX ox q (i :: p))) s := fin_pure hs (hr s.length)
    rw [hres] at hf hf0 ⊢
    have hks := oks_lt (m := s.length + 1) hq.2
    have hx1 : (q.kids.map Q.toD)[i]? = some x.toD := by rw [List.getElem?_map, e1]; rfl
    have hl0 : (q.kids.map Q.toD).length = q.kids.length := List.length_map _
    obtain ⟨f, _⟩ := hq
    have hz := fits_few f
    rw [toD_node q, call_at hw rfl]
    generalize q.kids.map Q.toD = cs at hl0 hf hf0 hks hx1 ⊢
    rw [← hl0] at f hz hlt
    generalize q.hd = hh at f hf hf0 ⊢
    rw [hcut] at h0
    simp at h0
    cases hh with
    | leaf w dd => exact absurd f.1 (by omega)
    | rcd ns =>
      obtain ⟨f1, _, _⟩ := f
      obtain ⟨q1, q1', _, _, q2, _⟩ := wb_of (s := s) wc_rcd
      obtain ⟨y, hy⟩ : ∃ y, ns[i]? = some y := ⟨_, List.getElem?_eq_getElem (by omega)⟩
      have hR : (List.zipWith (fun n c => D.tup [.str n, c]) ns cs)[i]? = some (.tup [.str y, x.toD]) := zw_get hy hx1
      have hS := zw_set (f := fun n c => D.tup [.str n, c]) (ns := ns) (cs := cs) (y := (putX ox x p)) hy
      have hcl : Clo (s ++ [.lst (List.zipWith (fun n c => D.tup [.str n, c]) ns cs)]) := hs.push (zw_lt fun a _ b hb => by simp [D.lt, D.ltAll, lt_mem hks hb])
      have hL : (List.zipWith (fun n c => D.tup [.str n, c]) ns cs).length = cs.length := by rw [List.length_zipWith]; omega
      simp only [mkD] at hf ⊢
      rw [← hS] at hf ⊢
      generalize List.zipWith (fun n c => D.tup [.str n, c]) ns cs = R at hR hf hcl hL
      have hai : atI R (i : Int) = some (.tup [.str y, x.toD]) := atI_nat hR
      have hix := ixN_nat (n := R.length) (i := i) (by omega)
      have m1 : (s ++ [Ob.lst R])[s.length]? = some (.lst R) := mid_at
      have m2 : (s ++ [Ob.lst R]).set s.length (.lst (R.set i (.tup [.str y, (putX ox x p)]))) = s ++ [.lst (R.set i (.tup [.str y, (putX ox x p)]))] := set_mid
      have m3 := tuple_obj (s := s ++ [.lst (R.set i (.tup [.str y, (putX ox x p)]))]) (k := s.length) mid_at
      simp -implicitDefEqProofs [f_with, b_with, hcut, hcp, h0, q2, m1, hai, callK_of (ih _ hcl), hix, m2, m3, hf]
    | mat ns =>
      obtain ⟨f1, _, _⟩ := f
      obtain ⟨_, _, _, q4, q2, q3, _, _, q5, _⟩ := wb_of (s := s) wc_mat
      cases i with
      | zero =>
        match cs, hx1, f1, hf0 with
        | c0 :: cs, hx1, f1, hf0 =>
          simp at hx1 h0
          subst hx1
          simp [mkD] at hf0
          simp -implicitDefEqProofs [f_with, b_with, mkD, hcut, hcp, h0, q2, q3, q4, q5, callK_of (ih _ hs), hf0]
      | succ i =>
        match cs, hx1, f1, hf, hks, hlt with
        | c0 :: cs, hx1, f1, hf, hks, hlt =>
          simp at hx1 f1 hlt h0
          obtain ⟨y, hy⟩ : ∃ y, ns[i]? = some y := ⟨_, List.getElem?_eq_getElem (by omega)⟩
          have hks2 : D.ltAll (s.length + 1) cs = true := by unfold D.ltAll at hks; rw [Bool.and_eq_true] at hks; exact hks.2
          have hR : (List.zipWith (fun (n : Str × Str) c => D.tup [.str n.1, .str n.2, c]) ns cs)[i]? = some (.tup [.str y.1, .str y.2, x.toD]) := zw_get (f := fun (n : Str × Str) c => D.tup [.str n.1, .str n.2, c]) hy hx1
          have hS := zw_set (f := fun (n : Str × Str) c => D.tup [.str n.1, .str n.2, c]) (ns := ns) (cs := cs) (y := (putX ox x p)) hy
          have hcl : Clo (s ++ [.lst (List.zipWith (fun (n : Str × Str) c => D.tup [.str n.1, .str n.2, c]) ns cs)]) := hs.push (zw_lt fun a _ b hb => by simp [D.lt, D.ltAll, lt_mem hks2 hb])
          have hL : (List.zipWith (fun (n : Str × Str) c => D.tup [.str n.1, .str n.2, c]) ns cs).length = cs.length := by rw [List.length_zipWith]; omega
          simp only [mkD, List.set_cons_succ, List.headD_cons, List.tail_cons] at hf ⊢
          rw [← hS] at hf ⊢
          generalize List.zipWith (fun (n : Str × Str) c => D.tup [.str n.1, .str n.2, c]) ns cs = R at hR hf hcl hL
          have hai : atI R (i : Int) = some (.tup [.str y.1, .str y.2, x.toD]) := atI_nat hR
          have hix := ixN_nat (n := R.length) (i := i) (by omega)
          have m1 : (s ++ [Ob.lst R])[s.length]? = some (.lst R) := mid_at
          have m2 : (s ++ [Ob.lst R]).set s.length (.lst (R.set i (.tup [.str y.1, .str y.2, (putX ox x p)]))) = s ++ [.lst (R.set i (.tup [.str y.1, .str y.2, (putX ox x p)]))] := set_mid
          have m3 := tuple_obj (s := s ++ [.lst (R.set i (.tup [.str y.1, .str y.2, (putX ox x p)]))]) (k := s.length) mid_at
          have hpos : (0 : Int) < (i : Int) + 1 := by omega
          have hsub : (i : Int) + 1 - 1 = i := by omega
          simp -implicitDefEqProofs [f_with, b_with, hcut, hcp, h0, q2, q3, hpos, hsub, m1, hai, callK_of (ih _ hcl), hix, m2, m3, hf]
    | fld w y =>
      obtain ⟨f1, f2, _⟩ := f
      obtain ⟨c0, rfl⟩ := one_of f1
      have hi : i = 0 := by simp at hlt; exact hlt
      subst hi
      simp at hx1 h0
      subst hx1
      simp [mkD] at hf0
      rcases List.mem_cons.mp f2 with rfl | f2
      · obtain ⟨_, _, _, q4, q2, q3, _, _, q5, _⟩ := wb_of (s := s) wc_fld
        simp -implicitDefEqProofs [f_with, b_with, mkD, hcut, hcp, h0, q2, q3, q4, q5, callK_of (ih _ hs), hf0]
      · rcases List.mem_cons.mp f2 with rfl | f2
        · obtain ⟨_, _, _, q4, q2, q3, _, _, q5, _⟩ := wb_of (s := s) wc_cas
          simp -implicitDefEqProofs [f_with, b_with, mkD, hcut, hcp, h0, q2, q3, q4, q5, callK_of (ih _ hs), hf0]
        · cases f2
    | tag kk y =>
      obtain ⟨f1, f2, _⟩ := f
      obtain ⟨c0, rfl⟩ := one_of f1
      have hi : i = 0 := by simp at hlt; exact hlt
      subst hi
      simp at hx1 h0
      subst hx1
      simp [mkD] at hf0
      obtain ⟨_, _, _, q4, q2, q3, _, _, q5, _⟩ := wb_of (s := s) wc_tag
      simp -implicitDefEqProofs [f_with, b_with, mkD, hcut, hcp, h0, q2, q3, q4, q5, callK_of (ih _ hs), hf0]
    | bnd w y =>
      obtain ⟨f1, f2, _⟩ := f
      obtain ⟨c0, c1, rfl⟩ := two_of f1
      obtain ⟨_, _, _, q4, q2, q3, _, _, q5, _⟩ := wb_of (s := s) (wc_bind w f2)
      have hi : i = 0 ∨ i = 1 := by simp at hlt; omega
      rcases hi with rfl | rfl
      · simp at hx1 h0
        subst hx1
        simp [mkD] at hf0
        simp -implicitDefEqProofs [f_with, b_with, mkD, hcut, hcp, h0, q2, q3, q4, q5, callK_of (ih _ hs), hf0]
      · simp at hx1 h0
        subst hx1
        simp [mkD] at hf0
        simp -implicitDefEqProofs [f_with, b_with, mkD, hcut, hcp, h0, q2, q3, q4, q5, callK_of (ih _ hs), hf0]
    | pln w =>
      obtain ⟨f1, f00, f2⟩ := f
      obtain ⟨_, _, _, q4, q2, q3, _, _, q5, _⟩ := wb_of (s := s) (wc_pln w f2)
      have hi : i = 0 ∨ i = 1 ∨ i = 2 := by omega
      match cs, hlt, hx1, hf0, f00 with
      | [c0], hlt, hx1, hf0, _ =>
        have hi : i = 0 := by simp at hlt; exact hlt
        subst hi
        simp at hx1 h0
        subst hx1
        simp [mkD] at hf0
        simp -implicitDefEqProofs [f_with, b_with, mkD, hcut, hcp, h0, q2, q3, q4, q5, callK_of (ih _ hs), hf0]
      | [c0, c1], hlt, hx1, hf0, _ =>
        have hi : i = 0 ∨ i = 1 := by simp at hlt; omega
        rcases hi with rfl | rfl <;>
        · simp at hx1 h0
          subst hx1
          simp [mkD] at hf0
          simp -implicitDefEqProofs [f_with, b_with, mkD, hcut, hcp, h0, q2, q3, q4, q5, callK_of (ih _ hs), hf0]
      | [c0, c1, c2], hlt, hx1, hf0, _ =>
        rcases hi with rfl | rfl | rfl <;>
        · simp at hx1 h0
          subst hx1
          simp [mkD] at hf0
          simp -implicitDefEqProofs [f_with, b_with, mkD, hcut, hcp, h0, q2, q3, q4, q5, callK_of (ih _ hs), hf0]
      | _ :: _ :: _ :: _ :: _, _, _, _, f00 => simp at f00
end Nv.S2

set_option Elab.async false
set_option linter.all false
set_option maxRecDepth 100000
set_option autoImplicit false
/-! K21: the text as terms -/
namespace Nv.K21
open PySem PySem.Spec PyProof.Rows L2
def top (i : Nat) : Stmt := PySem.Challenge.pw_nestviews_k21_questions_told_apart.main.body.getD i (.Pass ⟨0, 0, 0, 0⟩)
def b_p_row_kind (c g : Str → Nat) : Sm := (.cons (.for_ (.c (.v 2) (.c (.v 3) .n)) (.ix (.var 0) (.int 1)) (.cons (.ifs (.cmp .eq (.var 2) (.var 1))
    (.cons (.ret (.var 3)) .nil) .nil) .nil)) (.cons (.ret .non) .nil))
def f_p_row_kind (c g : Str → Nat) : Fn := ⟨"row_kind", ["kind", "name"], ["kind", "name", "label", "inner"], b_p_row_kind c g⟩
def b_p_is_record (c g : Str → Nat) : Sm := (.cons (.ifs (.or (.nt (.isin (.var 1) .tuple)) (.cmp .ne (.b1 .len (.var 1)) (.b1 .len (.ix (.var 0) (.int
    1))))) (.cons (.ret (.bl false)) .nil) .nil) (.cons (.ret (.b1 .all (.cp (.frz (.call (c "is_value") (.cons
    (.ix (.var 2) (.int 1)) (.cons (.var 3) .nil)))) (.c (.v 2) (.c (.v 3) .n)) (.i2 .zip (.ix (.var 0) (.int 1))
    (.var 1)) .nil [2, 3]))) .nil))
def f_p_is_record (c g : Str → Nat) : Fn := ⟨"is_record", ["kind", "thing"], ["kind", "thing", "row", "part"], b_p_is_record c g⟩
def b_p_is_choice (c g : Str → Nat) : Sm := (.cons (.ifs (.or (.nt (.isin (.var 1) .tuple)) (.or (.cmp .ne (.b1 .len (.var 1)) (.int 2)) (.nt (.isin (.ix
    (.var 1) (.int 0)) .str)))) (.cons (.ret (.bl false)) .nil) .nil) (.cons (.set (.v 2) (.frz (.call (c
    "row_kind") (.cons (.var 0) (.cons (.ix (.var 1) (.int 0)) .nil))))) (.cons (.ret (.and (.cmp .isn (.var 2)
    .non) (.call (c "is_value") (.cons (.var 2) (.cons (.ix (.var 1) (.int 1)) .nil))))) .nil)))
def f_p_is_choice (c g : Str → Nat) : Fn := ⟨"is_choice", ["kind", "thing"], ["kind", "thing", "inner"], b_p_is_choice c g⟩
def b_p_is_counted (c g : Str → Nat) : Sm := (.cons (.ifs (.or (.nt (.isin (.var 1) .tuple)) (.or (.cmp .ne (.b1 .len (.var 1)) (.int 2)) (.nt (.call (c
    "is_value") (.cons (.var 0) (.cons (.ix (.var 1) (.int 0)) .nil)))))) (.cons (.ret (.bl false)) .nil) .nil)
    (.cons (.ret (.and (.call (c "is_whole") (.cons (.ix (.var 1) (.int 1)) .nil)) (.cmp .ne (.ix (.var 1) (.int
    1)) (.int 0)))) .nil))
def f_p_is_counted (c g : Str → Nat) : Fn := ⟨"is_counted", ["kind", "row"], ["kind", "row"], b_p_is_counted c g⟩
def b_p_is_paper (c g : Str → Nat) : Sm := (.cons (.ifs (.or (.nt (.isin (.var 1) .tuple)) (.nt (.b1 .all (.cp (.frz (.call (c "is_counted") (.cons (.var
    0) (.cons (.var 4) .nil)))) (.v 4) (.var 1) .nil [4])))) (.cons (.ret (.bl false)) .nil) .nil) (.cons (.ret
    (.b1 .all (.cp (.cmp .lt (.ix (.var 2) (.int 0)) (.ix (.var 3) (.int 0))) (.c (.v 2) (.c (.v 3) .n)) (.i2 .zip
    (.var 1) (.sl (.var 1) (.int 1) .nil)) .nil [2, 3]))) .nil))
def f_p_is_paper (c g : Str → Nat) : Fn := ⟨"is_paper", ["kind", "thing"], ["kind", "thing", "one", "other", "row"], b_p_is_paper c g⟩
def b_odd_things (c g : Str → Nat) : Sm := (.cons (.set (.v 1) (.frz (.lst (.cons .non (.cons (.int 3) (.cons (.bl true) (.cons (.str "x") (.cons (.str
    "") (.cons (.tup .nil) (.cons (.frz (.lst .nil)) (.cons (.frz .dnew) (.cons (.tup (.cons (.str "x") .nil))
    (.cons (.tup (.cons (.str "name") .nil)) (.cons (.tup (.cons (.str "name") (.cons (.str "Abc") .nil))) (.cons
    (.tup (.cons (.str "name") (.cons (.str "") .nil))) .nil))))))))))))))) (.cons (.set (.v 1) (.frz (.bin .add
    (.var 1) (.lst (.cons (.tup (.cons (.str "name") (.cons (.str "abcdefghi") .nil))) (.cons (.tup (.cons (.str
    "name") (.cons (.int 3) .nil))) (.cons (.tup (.cons (.str "name") (.cons (.str "a\x20b") .nil))) (.cons (.tup
    (.cons (.str "name") (.cons (.str "x") (.cons (.var 0) .nil)))) (.cons (.frz (.lst (.cons (.str "name") (.cons
    (.str "x") .nil)))) .nil))))))))) (.cons (.set (.v 1) (.frz (.bin .add (.var 1) (.lst (.cons (.tup (.cons
    (.str "number") (.cons (.bl true) .nil))) (.cons (.tup (.cons (.str "number") (.cons (.str "3") .nil))) (.cons
    (.tup (.cons (.str "number") .nil)) (.cons (.tup (.cons (.str "number") (.cons (.int 1) (.cons (.int 2)
    .nil)))) (.cons (.tup (.cons (.str "text") (.cons (.int 3) .nil))) .nil))))))))) (.cons (.set (.v 1) (.frz
    (.bin .add (.var 1) (.lst (.cons (.tup (.cons (.str "text") (.cons (.int 7) .nil))) (.cons (.tup (.cons (.str
    "text") (.cons (.tup (.cons (.str "a") .nil)) .nil))) (.cons (.tup (.cons (.str "truth") (.cons (.int 1)
    .nil))) (.cons (.tup (.cons (.str "truth") (.cons (.int 0) .nil))) (.cons (.tup (.cons (.str "truth") (.cons
    (.str "yes") .nil))) .nil))))))))) (.cons (.set (.v 1) (.frz (.bin .add (.var 1) (.lst (.cons (.tup (.cons
    (.str "empty") (.cons (.str "number") .nil))) (.cons (.tup (.cons (.str "empty") (.cons (.tup (.cons (.str
    "bag") .nil)) .nil))) (.cons (.tup (.cons (.str "empty") .nil)) (.cons (.tup (.cons (.str "empty") (.cons .non
    .nil))) .nil)))))))) (.cons (.set (.v 1) (.frz (.bin .add (.var 1) (.lst (.cons (.tup (.cons (.str "record")
    (.cons (.frz (.lst (.cons (.tup (.cons (.str "a") (.cons (.var 0) .nil))) .nil))) .nil))) (.cons (.tup (.cons
    (.str "record") (.cons (.tup (.cons (.frz (.lst (.cons (.str "a") (.cons (.var 0) .nil)))) .nil)) .nil)))
    (.cons (.tup (.cons (.str "record") (.cons (.tup (.cons (.tup (.cons (.str "a") .nil)) .nil)) .nil)))
    .nil))))))) (.cons (.set (.v 1) (.frz (.bin .add (.var 1) (.lst (.cons (.tup (.cons (.str "record") (.cons
    (.tup (.cons (.tup (.cons (.str "A") (.cons (.var 0) .nil))) .nil)) .nil))) (.cons (.tup (.cons (.str
    "record") (.cons (.tup (.cons (.tup (.cons (.str "b") (.cons (.var 0) .nil))) (.cons (.tup (.cons (.str "a")
    (.cons (.var 0) .nil))) .nil))) .nil))) .nil)))))) (.cons (.set (.v 1) (.frz (.bin .add (.var 1) (.lst (.cons
    (.tup (.cons (.str "record") (.cons (.tup (.cons (.tup (.cons (.str "a") (.cons (.var 0) .nil))) (.cons (.tup
    (.cons (.str "a") (.cons (.var 0) .nil))) .nil))) .nil))) (.cons (.bin .add (.tup (.cons (.str "record")
    (.cons (.tup .nil) .nil))) (.tup (.cons (.var 0) .nil))) (.cons (.tup (.cons (.str "record") .nil)) (.cons
    (.tup (.cons (.str "field") (.cons (.var 0) .nil))) .nil)))))))) (.cons (.set (.v 1) (.frz (.bin .add (.var 1)
    (.lst (.cons (.tup (.cons (.str "field") (.cons (.var 0) (.cons (.str "A") .nil)))) (.cons (.tup (.cons (.str
    "field") (.cons (.var 0) (.cons (.str "a") (.cons (.str "b") .nil))))) (.cons (.tup (.cons (.str "field")
    (.cons (.str "a") (.cons (.var 0) .nil)))) (.cons (.tup (.cons (.str "case") (.cons (.var 0) (.cons (.int 3)
    .nil)))) .nil)))))))) (.cons (.set (.v 1) (.frz (.bin .add (.var 1) (.lst (.cons (.tup (.cons (.str "case")
    (.cons (.var 0) .nil))) (.cons (.tup (.cons (.str "tag") (.cons (.tup (.cons (.str "number") .nil)) (.cons
    (.str "a") (.cons (.var 0) .nil))))) (.cons (.tup (.cons (.str "tag") (.cons (.tup (.cons (.str "choice")
    (.cons (.tup .nil) .nil))) (.cons (.str "a") (.cons (.var 0) .nil))))) .nil))))))) (.cons (.set (.v 1) (.frz
    (.bin .add (.var 1) (.lst (.cons (.tup (.cons (.str "tag") (.cons (.str "choice") (.cons (.str "a") (.cons
    (.var 0) .nil))))) (.cons (.tup (.cons (.str "tag") (.cons (.tup (.cons (.str "choice") (.cons (.tup (.cons
    (.tup (.cons (.str "a") (.cons (.tup (.cons (.str "number") .nil)) .nil))) .nil)) .nil))) (.cons (.int 3)
    (.cons (.var 0) .nil))))) .nil)))))) (.cons (.set (.v 1) (.frz (.bin .add (.var 1) (.lst (.cons (.tup (.cons
    (.str "tag") (.cons (.tup (.cons (.str "choice") (.cons (.tup (.cons (.tup (.cons (.str "a") (.cons (.tup
    (.cons (.str "number") .nil)) .nil))) .nil)) .nil))) (.cons (.str "a") .nil)))) .nil))))) (.cons (.set (.v 1)
    (.frz (.bin .add (.var 1) (.lst (.cons (.tup (.cons (.str "tag") (.cons (.tup (.cons (.str "choice") (.cons
    (.tup (.cons (.tup (.cons (.str "a") (.cons (.tup (.cons (.str "bag") (.cons (.tup (.cons (.str "number")
    .nil)) .nil))) .nil))) .nil)) .nil))) (.cons (.str "a") (.cons (.var 0) .nil))))) (.cons (.tup (.cons (.str
    "match") (.cons (.var 0) (.cons (.tup .nil) .nil)))) .nil)))))) (.cons (.set (.v 1) (.frz (.bin .add (.var 1)
    (.lst (.cons (.tup (.cons (.str "match") (.cons (.var 0) .nil))) (.cons (.tup (.cons (.str "match") (.cons
    (.var 0) (.cons (.tup (.cons (.tup (.cons (.str "a") (.cons (.str "X") (.cons (.var 0) .nil)))) .nil))
    .nil)))) (.cons (.tup (.cons (.str "match") (.cons (.var 0) (.cons (.tup (.cons (.tup (.cons (.str "a") (.cons
    (.str "x") .nil))) .nil)) .nil)))) .nil))))))) (.cons (.set (.v 1) (.frz (.bin .add (.var 1) (.lst (.cons
    (.tup (.cons (.str "match") (.cons (.var 0) (.cons (.frz (.lst (.cons (.tup (.cons (.str "a") (.cons (.str
    "x") (.cons (.var 0) .nil)))) .nil))) .nil)))) (.cons (.tup (.cons (.str "match") (.cons (.var 0) (.cons (.tup
    (.cons (.tup (.cons (.str "b") (.cons (.str "x") (.cons (.var 0) .nil)))) (.cons (.tup (.cons (.str "a")
    (.cons (.str "x") (.cons (.var 0) .nil)))) .nil))) .nil)))) .nil)))))) (.cons (.set (.v 1) (.frz (.bin .add
    (.var 1) (.lst (.cons (.tup (.cons (.str "match") (.cons (.var 0) (.cons (.tup (.cons (.tup (.cons (.str "a")
    (.cons (.str "x") (.cons (.var 0) .nil)))) (.cons (.tup (.cons (.str "a") (.cons (.str "y") (.cons (.var 0)
    .nil)))) .nil))) .nil)))) (.cons (.tup (.cons (.str "if") (.cons (.var 0) (.cons (.var 0) .nil)))) (.cons
    (.tup (.cons (.str "if") (.cons (.var 0) (.cons (.var 0) (.cons (.var 0) (.cons (.var 0) .nil))))))
    .nil))))))) (.cons (.set (.v 1) (.frz (.bin .add (.var 1) (.lst (.cons (.tup (.cons (.str "let") (.cons (.str
    "x") (.cons (.var 0) .nil)))) (.cons (.tup (.cons (.str "let") (.cons (.str "X") (.cons (.var 0) (.cons (.var
    0) .nil))))) (.cons (.tup (.cons (.str "for") (.cons (.int 3) (.cons (.var 0) (.cons (.var 0) .nil))))) (.cons
    (.tup (.cons (.str "for") (.cons (.var 0) (.cons (.var 0) (.cons (.var 0) .nil))))) .nil)))))))) (.cons (.set
    (.v 1) (.frz (.bin .add (.var 1) (.lst (.cons (.tup (.cons (.str "sum") (.cons (.str "x") (.cons (.var 0)
    (.cons (.var 0) (.cons (.var 0) .nil)))))) (.cons (.tup (.cons (.str "one") .nil)) (.cons (.tup (.cons (.str
    "one") (.cons (.var 0) (.cons (.var 0) .nil)))) (.cons (.frz (.lst (.cons (.str "one") (.cons (.var 0)
    .nil)))) (.cons (.tup (.cons (.str "plus") (.cons (.var 0) .nil))) (.cons (.tup (.cons (.str "not") (.cons
    (.int 3) .nil))) .nil)))))))))) (.cons (.set (.v 1) (.frz (.bin .add (.var 1) (.lst (.cons (.tup (.cons (.str
    "both") (.cons (.var 0) (.cons (.var 0) (.cons (.var 0) .nil))))) (.cons (.tup (.cons (.str "both") (.cons
    (.var 0) .nil))) (.cons (.tup (.cons (.str "open") (.cons (.var 0) .nil))) (.cons (.tup (.cons (.str "One")
    (.cons (.var 0) .nil))) (.cons (.tup (.cons (.str "maybe") (.cons (.var 0) .nil))) .nil))))))))) (.cons (.set
    (.v 1) (.frz (.bin .add (.var 1) (.lst (.cons (.tup (.cons (.str "group") (.cons (.str "x") (.cons (.var 0)
    (.cons (.var 0) .nil))))) (.cons (.tup (.cons (.var 0) (.cons (.var 0) .nil))) .nil)))))) (.cons (.set (.v 1)
    (.frz (.bin .add (.var 1) (.lst (.cons (.tup (.cons (.frz (.lst .nil)) (.cons (.var 0) .nil))) (.cons (.tup
    (.cons (.frz .dnew) (.cons (.str "x") .nil))) (.cons (.tup (.cons (.str "name") (.cons (.frz (.lst .nil))
    .nil))) (.cons (.tup (.cons (.str "number") (.cons (.frz .dnew) .nil))) (.cons (.tup (.cons (.str "truth")
    (.cons (.frz (.lst .nil)) .nil))) (.cons (.tup (.cons (.str "empty") (.cons (.frz (.lst .nil)) .nil)))
    .nil)))))))))) (.cons (.set (.v 1) (.frz (.bin .add (.var 1) (.lst (.cons (.tup (.cons (.str "record") (.cons
    (.frz .dnew) .nil))) (.cons (.tup (.cons (.str "field") (.cons (.var 0) (.cons (.frz (.lst .nil)) .nil))))
    (.cons (.tup (.cons (.str "case") (.cons (.var 0) (.cons (.frz .dnew) .nil)))) (.cons (.tup (.cons (.str
    "for") (.cons (.frz (.lst .nil)) (.cons (.var 0) (.cons (.var 0) .nil))))) (.cons (.tup (.cons (.str "let")
    (.cons (.frz .dnew) (.cons (.var 0) (.cons (.var 0) .nil))))) .nil))))))))) (.cons (.set (.v 1) (.frz (.bin
    .add (.var 1) (.lst (.cons (.tup (.cons (.frz (.lst (.cons (.str "one") .nil))) (.cons (.var 0) .nil))) (.cons
    (.tup (.cons (.str "empty") (.cons (.tup (.cons (.frz .dnew) .nil)) .nil))) (.cons (.tup (.cons (.str
    "record") (.cons (.tup (.cons (.tup (.cons (.frz (.lst .nil)) (.cons (.var 0) .nil))) .nil)) .nil))) (.cons
    (.tup (.cons (.str "match") (.cons (.var 0) (.cons (.tup (.cons (.tup (.cons (.str "a") (.cons (.frz .dnew)
    (.cons (.var 0) .nil)))) .nil)) .nil)))) .nil)))))))) (.cons (.set (.v 1) (.frz (.bin .add (.var 1) (.lst
    (.cons (.tup (.cons (.str "tag") (.cons (.frz (.lst .nil)) (.cons (.str "a") (.cons (.var 0) .nil))))) (.cons
    (.tup (.cons (.str "match") (.cons (.var 0) (.cons (.frz .dnew) .nil)))) (.cons (.tup (.cons (.str "match")
    (.cons (.var 0) (.cons (.tup (.cons (.frz (.lst .nil)) (.cons (.var 0) .nil))) .nil)))) (.cons (.tup (.cons
    (.str "match") (.cons (.frz (.lst .nil)) (.cons (.tup (.cons (.tup (.cons (.str "a") (.cons (.str "x") (.cons
    (.var 0) .nil)))) .nil)) .nil)))) .nil)))))))) (.cons (.ret (.var 1)) .nil)))))))))))))))))))))))))
def f_odd_things (c g : Str → Nat) : Fn := ⟨"_law_odd_things", ["_law_q"], ["_law_q", "_law_some"], b_odd_things c g⟩
def b_right (c g : Str → Nat) : Sm := (.cons (.set (.v 1) (.call (c "_law_pot") (.cons (.var 0) (.cons (.int 18) .nil)))) (.cons (.set (.v 2) (.frz
    (.call (c "_law_question") (.cons (.var 1) (.cons (.int 8) .nil))))) (.cons (.set (.v 3) (.frz (.call (c
    "_law_places") (.cons (.var 2) .nil)))) (.cons (.set (.v 4) (.ix (.var 3) (.call (c "_law_digit") (.cons (.var
    1) (.cons (.b1 .len (.var 3)) .nil))))) (.cons (.set (.v 5) (.frz (.call (c "_law_odd_things") (.cons (.frz
    (.call (c "_law_question") (.cons (.call (c "_law_pot") (.cons (.bin .fdiv (.var 0) (.int 3)) (.cons (.int 4)
    .nil))) (.cons (.int 2) .nil)))) .nil)))) (.cons (.set (.v 6) (.ix (.var 5) (.call (c "_law_digit") (.cons
    (.var 1) (.cons (.b1 .len (.var 5)) .nil))))) (.cons (.ifs (.or (.cmp .isn (.call (c "is_question") (.cons
    (.var 2) .nil)) (.bl true)) (.cmp .ne (.cp (.var 7) (.v 7) (.var 5) (.cmp .isn (.call (c "is_question") (.cons
    (.var 7) .nil)) (.bl false)) [7]) (.lst .nil))) (.cons (.ret (.bl false)) .nil) .nil) (.cons (.ifs (.or (.cmp
    .isn (.call (c "is_question") (.cons (.frz (.call (c "_law_with") (.cons (.var 2) (.cons (.var 4) (.cons (.var
    6) .nil))))) .nil)) (.bl false)) (.cmp .isn (.call (c "is_question") (.cons (.frz (.b1 .list (.var 2))) .nil))
    (.bl false))) (.cons (.ret (.bl false)) .nil) .nil) (.cons (.ret (.and (.b1 .all (.cp (.cmp .is (.call (c
    "is_question") (.cons (.var 8) .nil)) (.bl true)) (.v 8) (.call (c "_law_parts") (.cons (.var 2) .nil)) .nil
    [8])) (.cmp .is (.call (c "is_question") (.cons (.var 2) .nil)) (.bl true)))) .nil)))))))))
def f_right (c g : Str → Nat) : Fn := ⟨"_law_right", ["_law_cell_here"], ["_law_cell_here", "_law_pot_here", "_law_question_here", "_law_spots", "_law_place", "_law_some", "_law_odd", "_law_one", "_law_part"], b_right c g⟩
def b_p_law (c g : Str → Nat) : Sm := (.cons (.for_ (.v 1) (.bin .add (.lst (.cons (.frz (.bin .add (.call (c "_law_cell") (.cons (.var 0) (.cons
    (.int 12) .nil))) (.bin .mul (.int 7) (.b1 .len (.var 0))))) .nil)) (.sl (.var 0) .nil (.int 12))) (.cons
    (.ifs (.nt (.call (c "_law_right") (.cons (.var 1) .nil))) (.cons (.ret (.bl false)) .nil) .nil) .nil)) (.cons
    (.ret (.and (.cmp .is (.call (c "is_question") (.cons (.tup (.cons (.str "record") (.cons (.tup .nil) .nil)))
    .nil)) (.bl true)) (.cmp .is (.call (c "is_question") (.cons (.tup (.cons (.str "empty") (.cons (.tup (.cons
    (.str "record") (.cons (.tup .nil) .nil))) .nil))) .nil)) (.bl true)))) .nil))
def f_p_law (c g : Str → Nat) : Fn := ⟨"law", ["_law_script"], ["_law_script", "_law_cell_here"], b_p_law c g⟩
def c : Str → Nat := fun x => List.idxOf x ((["is_name", "is_row", "are_rows_kinds", "is_kind", "is_flat", "row_kind", "is_whole", "is_text", "is_record", "is_choice", "is_counted", "is_paper", "is_value", "is_word", "are_rows_questions", "is_rowed", "is_made", "is_question", "parts", "_law_cell"] : List Str) ++ (["_law_pot", "_law_digit", "_law_name", "_law_names", "_law_kind", "_law_choice", "_law_signs", "_law_leaf", "_law_rowed", "_law_question", "_law_parts", "_law_places", "_law_with", "_law_odd_things", "_law_right", "law"] : List Str))
def g : Str → Nat := fun x => List.idxOf x ((["SIMPLE", "LETTERS_kinds", "LONGEST_kinds", "SIGNS", "LETTERS_questions", "LONGEST_questions", "VALUES", "LEAVES", "BINDING"] : List Str))
def tab : Tab := ⟨[(Nv.S2.f_p_is_name c g), (Nv.S2.f_p_is_row c g), (Nv.S2.f_p_are_rows_kinds c g), (Nv.S2.f_p_is_kind c g), (Nv.S2.f_p_is_flat c g), (f_p_row_kind c g), (Nv.S2.f_p_is_whole c g), (Nv.S2.f_p_is_text c g), (f_p_is_record c g), (f_p_is_choice c g), (f_p_is_counted c g), (f_p_is_paper c g), (Nv.S2.f_p_is_value c g), (Nv.S2.f_p_is_word c g), (Nv.S2.f_p_are_rows_questions c g), (Nv.S2.f_p_is_rowed c g), (Nv.S2.f_p_is_made c g), (Nv.S2.f_p_is_question c g), (Nv.S2.f_p_parts c g), (Nv.S2.f_cell c g), (Nv.S2.f_pot c g), (Nv.S2.f_digit c g), (Nv.S2.f_name c g), (Nv.S2.f_names c g), (Nv.S2.f_kind c g), (Nv.S2.f_choice c g), (Nv.S2.f_signs c g), (Nv.S2.f_leaf c g), (Nv.S2.f_rowed c g), (Nv.S2.f_question c g), (Nv.S2.f_parts c g), (Nv.S2.f_places c g), (Nv.S2.f_with c g), (f_odd_things c g), (f_right c g), (f_p_law c g)], [("SIMPLE", .tup ((["number", "text", "truth"] : List Str).map D.str)), ("LETTERS_kinds", .str "abcdefghijklmnopqrstuvwxyz"), ("LONGEST_kinds", .int (8)), ("SIGNS", .str "\x20!\"#$&'()*+,-./0123456789:;<=>?@ABCDEFGHIJKLMNOPQRSTUVWXYZ[\\]^_`abcdefghijklmnopqrstuvwxyz{|}~"), ("LETTERS_questions", .str "abcdefghijklmnopqrstuvwxyz"), ("LONGEST_questions", .int (8)), ("VALUES", .tup ((["number", "text", "truth"] : List Str).map D.str)), ("LEAVES", .tup ((["number", "text", "truth", "name", "empty"] : List Str).map D.str)), ("BINDING", .tup ((["let", "for", "sum"] : List Str).map D.str))], ["all", "len", "isinstance", "str", "tuple", "zip", "bool", "int", "enumerate", "list", "range", "sorted"], [], [], [], [("PLAIN", [("if", 3), ("one", 1), ("plus", 2), ("unlike", 1), ("add", 2), ("times", 2), ("alike", 2), ("below", 2), ("not", 1), ("both", 2)])], [("are_rows_kinds", "are_rows"), ("are_rows_questions", "are_rows")]⟩
theorem at_p_is_name : tab.fns[c "is_name"]? = some (Nv.S2.f_p_is_name c g) := by rw [show c "is_name" = 0 by decide +kernel]; rfl
theorem at_p_is_row : tab.fns[c "is_row"]? = some (Nv.S2.f_p_is_row c g) := by rw [show c "is_row" = 1 by decide +kernel]; rfl
theorem at_p_are_rows_kinds : tab.fns[c "are_rows_kinds"]? = some (Nv.S2.f_p_are_rows_kinds c g) := by rw [show c "are_rows_kinds" = 2 by decide +kernel]; rfl
theorem at_p_is_kind : tab.fns[c "is_kind"]? = some (Nv.S2.f_p_is_kind c g) := by rw [show c "is_kind" = 3 by decide +kernel]; rfl
theorem at_p_is_flat : tab.fns[c "is_flat"]? = some (Nv.S2.f_p_is_flat c g) := by rw [show c "is_flat" = 4 by decide +kernel]; rfl
theorem at_p_row_kind : tab.fns[c "row_kind"]? = some (f_p_row_kind c g) := by rw [show c "row_kind" = 5 by decide +kernel]; rfl
theorem at_p_is_whole : tab.fns[c "is_whole"]? = some (Nv.S2.f_p_is_whole c g) := by rw [show c "is_whole" = 6 by decide +kernel]; rfl
theorem at_p_is_text : tab.fns[c "is_text"]? = some (Nv.S2.f_p_is_text c g) := by rw [show c "is_text" = 7 by decide +kernel]; rfl
theorem at_p_is_record : tab.fns[c "is_record"]? = some (f_p_is_record c g) := by rw [show c "is_record" = 8 by decide +kernel]; rfl
theorem at_p_is_choice : tab.fns[c "is_choice"]? = some (f_p_is_choice c g) := by rw [show c "is_choice" = 9 by decide +kernel]; rfl
theorem at_p_is_counted : tab.fns[c "is_counted"]? = some (f_p_is_counted c g) := by rw [show c "is_counted" = 10 by decide +kernel]; rfl
theorem at_p_is_paper : tab.fns[c "is_paper"]? = some (f_p_is_paper c g) := by rw [show c "is_paper" = 11 by decide +kernel]; rfl
theorem at_p_is_value : tab.fns[c "is_value"]? = some (Nv.S2.f_p_is_value c g) := by rw [show c "is_value" = 12 by decide +kernel]; rfl
theorem at_p_is_word : tab.fns[c "is_word"]? = some (Nv.S2.f_p_is_word c g) := by rw [show c "is_word" = 13 by decide +kernel]; rfl
theorem at_p_are_rows_questions : tab.fns[c "are_rows_questions"]? = some (Nv.S2.f_p_are_rows_questions c g) := by rw [show c "are_rows_questions" = 14 by decide +kernel]; rfl
theorem at_p_is_rowed : tab.fns[c "is_rowed"]? = some (Nv.S2.f_p_is_rowed c g) := by rw [show c "is_rowed" = 15 by decide +kernel]; rfl
theorem at_p_is_made : tab.fns[c "is_made"]? = some (Nv.S2.f_p_is_made c g) := by rw [show c "is_made" = 16 by decide +kernel]; rfl
theorem at_p_is_question : tab.fns[c "is_question"]? = some (Nv.S2.f_p_is_question c g) := by rw [show c "is_question" = 17 by decide +kernel]; rfl
theorem at_p_parts : tab.fns[c "parts"]? = some (Nv.S2.f_p_parts c g) := by rw [show c "parts" = 18 by decide +kernel]; rfl
theorem at_cell : tab.fns[c "_law_cell"]? = some (Nv.S2.f_cell c g) := by rw [show c "_law_cell" = 19 by decide +kernel]; rfl
theorem at_pot : tab.fns[c "_law_pot"]? = some (Nv.S2.f_pot c g) := by rw [show c "_law_pot" = 20 by decide +kernel]; rfl
theorem at_digit : tab.fns[c "_law_digit"]? = some (Nv.S2.f_digit c g) := by rw [show c "_law_digit" = 21 by decide +kernel]; rfl
theorem at_name : tab.fns[c "_law_name"]? = some (Nv.S2.f_name c g) := by rw [show c "_law_name" = 22 by decide +kernel]; rfl
theorem at_names : tab.fns[c "_law_names"]? = some (Nv.S2.f_names c g) := by rw [show c "_law_names" = 23 by decide +kernel]; rfl
theorem at_kind : tab.fns[c "_law_kind"]? = some (Nv.S2.f_kind c g) := by rw [show c "_law_kind" = 24 by decide +kernel]; rfl
theorem at_choice : tab.fns[c "_law_choice"]? = some (Nv.S2.f_choice c g) := by rw [show c "_law_choice" = 25 by decide +kernel]; rfl
theorem at_signs : tab.fns[c "_law_signs"]? = some (Nv.S2.f_signs c g) := by rw [show c "_law_signs" = 26 by decide +kernel]; rfl
theorem at_leaf : tab.fns[c "_law_leaf"]? = some (Nv.S2.f_leaf c g) := by rw [show c "_law_leaf" = 27 by decide +kernel]; rfl
theorem at_rowed : tab.fns[c "_law_rowed"]? = some (Nv.S2.f_rowed c g) := by rw [show c "_law_rowed" = 28 by decide +kernel]; rfl
theorem at_question : tab.fns[c "_law_question"]? = some (Nv.S2.f_question c g) := by rw [show c "_law_question" = 29 by decide +kernel]; rfl
theorem at_parts : tab.fns[c "_law_parts"]? = some (Nv.S2.f_parts c g) := by rw [show c "_law_parts" = 30 by decide +kernel]; rfl
theorem at_places : tab.fns[c "_law_places"]? = some (Nv.S2.f_places c g) := by rw [show c "_law_places" = 31 by decide +kernel]; rfl
theorem at_with : tab.fns[c "_law_with"]? = some (Nv.S2.f_with c g) := by rw [show c "_law_with" = 32 by decide +kernel]; rfl
theorem at_odd_things : tab.fns[c "_law_odd_things"]? = some (f_odd_things c g) := by rw [show c "_law_odd_things" = 33 by decide +kernel]; rfl
theorem at_right : tab.fns[c "_law_right"]? = some (f_right c g) := by rw [show c "_law_right" = 34 by decide +kernel]; rfl
theorem at_p_law : tab.fns[c "law"]? = some (f_p_law c g) := by rw [show c "law" = 35 by decide +kernel]; rfl
theorem gc_SIMPLE : tab.gc (g "SIMPLE") = some (.tup ((["number", "text", "truth"] : List Str).map D.str)) := by rw [show g "SIMPLE" = 0 by decide +kernel]; rfl
theorem gc_LETTERS_kinds : tab.gc (g "LETTERS_kinds") = some (.str "abcdefghijklmnopqrstuvwxyz") := by rw [show g "LETTERS_kinds" = 1 by decide +kernel]; rfl
theorem gc_LONGEST_kinds : tab.gc (g "LONGEST_kinds") = some (.int (8)) := by rw [show g "LONGEST_kinds" = 2 by decide +kernel]; rfl
theorem gc_SIGNS : tab.gc (g "SIGNS") = some (.str "\x20!\"#$&'()*+,-./0123456789:;<=>?@ABCDEFGHIJKLMNOPQRSTUVWXYZ[\\]^_`abcdefghijklmnopqrstuvwxyz{|}~") := by rw [show g "SIGNS" = 3 by decide +kernel]; rfl
theorem gc_LETTERS_questions : tab.gc (g "LETTERS_questions") = some (.str "abcdefghijklmnopqrstuvwxyz") := by rw [show g "LETTERS_questions" = 4 by decide +kernel]; rfl
theorem gc_LONGEST_questions : tab.gc (g "LONGEST_questions") = some (.int (8)) := by rw [show g "LONGEST_questions" = 5 by decide +kernel]; rfl
theorem gc_VALUES : tab.gc (g "VALUES") = some (.tup ((["number", "text", "truth"] : List Str).map D.str)) := by rw [show g "VALUES" = 6 by decide +kernel]; rfl
theorem gc_LEAVES : tab.gc (g "LEAVES") = some (.tup ((["number", "text", "truth", "name", "empty"] : List Str).map D.str)) := by rw [show g "LEAVES" = 7 by decide +kernel]; rfl
theorem gc_BINDING : tab.gc (g "BINDING") = some (.tup ((["let", "for", "sum"] : List Str).map D.str)) := by rw [show g "BINDING" = 8 by decide +kernel]; rfl
theorem k_p_is_name : (ckS tab (Nv.S2.f_p_is_name c g).ns (Nv.S2.f_p_is_name c g).body).l (defScope (top 4)) (defBody (top 4)) = true := by decide +kernel
theorem s_p_is_name : FnScope (Nv.S2.f_p_is_name c g).ns (Nv.S2.f_p_is_name c g).ps (defScope (top 4)) := ⟨rfl, rfl, rfl, by decide +kernel, rfl, by decide +kernel, by decide +kernel⟩
theorem a_p_is_name (kV doc pm : Value) (an : Option Addr) (cdv ct : Value) (us : List Value) (h : us.length = (Nv.S2.f_p_is_name c g).ps.length) : bindArgs (PySem.W.fnOf "is_name" "is_name" (defArgs (top 4)) (defBody (top 4)) (defScope (top 4)) .none kV doc pm an cdv ct) ⟨us, []⟩ = pure ((Nv.S2.f_p_is_name c g).ps.zip us) :=
  match us, h with
  | [_], _ => rfl
theorem k_p_is_row : (ckS tab (Nv.S2.f_p_is_row c g).ns (Nv.S2.f_p_is_row c g).body).l (defScope (top 5)) (defBody (top 5)) = true := by decide +kernel
theorem s_p_is_row : FnScope (Nv.S2.f_p_is_row c g).ns (Nv.S2.f_p_is_row c g).ps (defScope (top 5)) := ⟨rfl, rfl, rfl, by decide +kernel, rfl, by decide +kernel, by decide +kernel⟩
theorem a_p_is_row (kV doc pm : Value) (an : Option Addr) (cdv ct : Value) (us : List Value) (h : us.length = (Nv.S2.f_p_is_row c g).ps.length) : bindArgs (PySem.W.fnOf "is_row" "is_row" (defArgs (top 5)) (defBody (top 5)) (defScope (top 5)) .none kV doc pm an cdv ct) ⟨us, []⟩ = pure ((Nv.S2.f_p_is_row c g).ps.zip us) :=
  match us, h with
  | [_], _ => rfl
theorem k_p_are_rows_kinds : (ckS tab (Nv.S2.f_p_are_rows_kinds c g).ns (Nv.S2.f_p_are_rows_kinds c g).body).l (defScope (top 6)) (defBody (top 6)) = true := by decide +kernel
theorem s_p_are_rows_kinds : FnScope (Nv.S2.f_p_are_rows_kinds c g).ns (Nv.S2.f_p_are_rows_kinds c g).ps (defScope (top 6)) := ⟨rfl, rfl, rfl, by decide +kernel, rfl, by decide +kernel, by decide +kernel⟩
theorem a_p_are_rows_kinds (kV doc pm : Value) (an : Option Addr) (cdv ct : Value) (us : List Value) (h : us.length = (Nv.S2.f_p_are_rows_kinds c g).ps.length) : bindArgs (PySem.W.fnOf "are_rows" "are_rows" (defArgs (top 6)) (defBody (top 6)) (defScope (top 6)) .none kV doc pm an cdv ct) ⟨us, []⟩ = pure ((Nv.S2.f_p_are_rows_kinds c g).ps.zip us) :=
  match us, h with
  | [_], _ => rfl
theorem k_p_is_kind : (ckS tab (Nv.S2.f_p_is_kind c g).ns (Nv.S2.f_p_is_kind c g).body).l (defScope (top 8)) (defBody (top 8)) = true := by decide +kernel
theorem s_p_is_kind : FnScope (Nv.S2.f_p_is_kind c g).ns (Nv.S2.f_p_is_kind c g).ps (defScope (top 8)) := ⟨rfl, rfl, rfl, by decide +kernel, rfl, by decide +kernel, by decide +kernel⟩
theorem a_p_is_kind (kV doc pm : Value) (an : Option Addr) (cdv ct : Value) (us : List Value) (h : us.length = (Nv.S2.f_p_is_kind c g).ps.length) : bindArgs (PySem.W.fnOf "is_kind" "is_kind" (defArgs (top 8)) (defBody (top 8)) (defScope (top 8)) .none kV doc pm an cdv ct) ⟨us, []⟩ = pure ((Nv.S2.f_p_is_kind c g).ps.zip us) :=
  match us, h with
  | [_], _ => rfl
theorem k_p_is_flat : (ckS tab (Nv.S2.f_p_is_flat c g).ns (Nv.S2.f_p_is_flat c g).body).l (defScope (top 9)) (defBody (top 9)) = true := by decide +kernel
theorem s_p_is_flat : FnScope (Nv.S2.f_p_is_flat c g).ns (Nv.S2.f_p_is_flat c g).ps (defScope (top 9)) := ⟨rfl, rfl, rfl, by decide +kernel, rfl, by decide +kernel, by decide +kernel⟩
theorem a_p_is_flat (kV doc pm : Value) (an : Option Addr) (cdv ct : Value) (us : List Value) (h : us.length = (Nv.S2.f_p_is_flat c g).ps.length) : bindArgs (PySem.W.fnOf "is_flat" "is_flat" (defArgs (top 9)) (defBody (top 9)) (defScope (top 9)) .none kV doc pm an cdv ct) ⟨us, []⟩ = pure ((Nv.S2.f_p_is_flat c g).ps.zip us) :=
  match us, h with
  | [_], _ => rfl
theorem k_p_row_kind : (ckS tab (f_p_row_kind c g).ns (f_p_row_kind c g).body).l (defScope (top 10)) (defBody (top 10)) = true := by decide +kernel
theorem s_p_row_kind : FnScope (f_p_row_kind c g).ns (f_p_row_kind c g).ps (defScope (top 10)) := ⟨rfl, rfl, rfl, by decide +kernel, rfl, by decide +kernel, by decide +kernel⟩
theorem a_p_row_kind (kV doc pm : Value) (an : Option Addr) (cdv ct : Value) (us : List Value) (h : us.length = (f_p_row_kind c g).ps.length) : bindArgs (PySem.W.fnOf "row_kind" "row_kind" (defArgs (top 10)) (defBody (top 10)) (defScope (top 10)) .none kV doc pm an cdv ct) ⟨us, []⟩ = pure ((f_p_row_kind c g).ps.zip us) :=
  match us, h with
  | [_, _], _ => rfl
theorem k_p_is_whole : (ckS tab (Nv.S2.f_p_is_whole c g).ns (Nv.S2.f_p_is_whole c g).body).l (defScope (top 13)) (defBody (top 13)) = true := by decide +kernel
theorem s_p_is_whole : FnScope (Nv.S2.f_p_is_whole c g).ns (Nv.S2.f_p_is_whole c g).ps (defScope (top 13)) := ⟨rfl, rfl, rfl, by decide +kernel, rfl, by decide +kernel, by decide +kernel⟩
theorem a_p_is_whole (kV doc pm : Value) (an : Option Addr) (cdv ct : Value) (us : List Value) (h : us.length = (Nv.S2.f_p_is_whole c g).ps.length) : bindArgs (PySem.W.fnOf "is_whole" "is_whole" (defArgs (top 13)) (defBody (top 13)) (defScope (top 13)) .none kV doc pm an cdv ct) ⟨us, []⟩ = pure ((Nv.S2.f_p_is_whole c g).ps.zip us) :=
  match us, h with
  | [_], _ => rfl
theorem k_p_is_text : (ckS tab (Nv.S2.f_p_is_text c g).ns (Nv.S2.f_p_is_text c g).body).l (defScope (top 14)) (defBody (top 14)) = true := by decide +kernel
theorem s_p_is_text : FnScope (Nv.S2.f_p_is_text c g).ns (Nv.S2.f_p_is_text c g).ps (defScope (top 14)) := ⟨rfl, rfl, rfl, by decide +kernel, rfl, by decide +kernel, by decide +kernel⟩
theorem a_p_is_text (kV doc pm : Value) (an : Option Addr) (cdv ct : Value) (us : List Value) (h : us.length = (Nv.S2.f_p_is_text c g).ps.length) : bindArgs (PySem.W.fnOf "is_text" "is_text" (defArgs (top 14)) (defBody (top 14)) (defScope (top 14)) .none kV doc pm an cdv ct) ⟨us, []⟩ = pure ((Nv.S2.f_p_is_text c g).ps.zip us) :=
  match us, h with
  | [_], _ => rfl
theorem k_p_is_record : (ckS tab (f_p_is_record c g).ns (f_p_is_record c g).body).l (defScope (top 15)) (defBody (top 15)) = true := by decide +kernel
theorem s_p_is_record : FnScope (f_p_is_record c g).ns (f_p_is_record c g).ps (defScope (top 15)) := ⟨rfl, rfl, rfl, by decide +kernel, rfl, by decide +kernel, by decide +kernel⟩
theorem a_p_is_record (kV doc pm : Value) (an : Option Addr) (cdv ct : Value) (us : List Value) (h : us.length = (f_p_is_record c g).ps.length) : bindArgs (PySem.W.fnOf "is_record" "is_record" (defArgs (top 15)) (defBody (top 15)) (defScope (top 15)) .none kV doc pm an cdv ct) ⟨us, []⟩ = pure ((f_p_is_record c g).ps.zip us) :=
  match us, h with
  | [_, _], _ => rfl
theorem k_p_is_choice : (ckS tab (f_p_is_choice c g).ns (f_p_is_choice c g).body).l (defScope (top 16)) (defBody (top 16)) = true := by decide +kernel
theorem s_p_is_choice : FnScope (f_p_is_choice c g).ns (f_p_is_choice c g).ps (defScope (top 16)) := ⟨rfl, rfl, rfl, by decide +kernel, rfl, by decide +kernel, by decide +kernel⟩
theorem a_p_is_choice (kV doc pm : Value) (an : Option Addr) (cdv ct : Value) (us : List Value) (h : us.length = (f_p_is_choice c g).ps.length) : bindArgs (PySem.W.fnOf "is_choice" "is_choice" (defArgs (top 16)) (defBody (top 16)) (defScope (top 16)) .none kV doc pm an cdv ct) ⟨us, []⟩ = pure ((f_p_is_choice c g).ps.zip us) :=
  match us, h with
  | [_, _], _ => rfl
theorem k_p_is_counted : (ckS tab (f_p_is_counted c g).ns (f_p_is_counted c g).body).l (defScope (top 17)) (defBody (top 17)) = true := by decide +kernel
theorem s_p_is_counted : FnScope (f_p_is_counted c g).ns (f_p_is_counted c g).ps (defScope (top 17)) := ⟨rfl, rfl, rfl, by decide +kernel, rfl, by decide +kernel, by decide +kernel⟩
theorem a_p_is_counted (kV doc pm : Value) (an : Option Addr) (cdv ct : Value) (us : List Value) (h : us.length = (f_p_is_counted c g).ps.length) : bindArgs (PySem.W.fnOf "is_counted" "is_counted" (defArgs (top 17)) (defBody (top 17)) (defScope (top 17)) .none kV doc pm an cdv ct) ⟨us, []⟩ = pure ((f_p_is_counted c g).ps.zip us) :=
  match us, h with
  | [_, _], _ => rfl
theorem k_p_is_paper : (ckS tab (f_p_is_paper c g).ns (f_p_is_paper c g).body).l (defScope (top 18)) (defBody (top 18)) = true := by decide +kernel
theorem s_p_is_paper : FnScope (f_p_is_paper c g).ns (f_p_is_paper c g).ps (defScope (top 18)) := ⟨rfl, rfl, rfl, by decide +kernel, rfl, by decide +kernel, by decide +kernel⟩
theorem a_p_is_paper (kV doc pm : Value) (an : Option Addr) (cdv ct : Value) (us : List Value) (h : us.length = (f_p_is_paper c g).ps.length) : bindArgs (PySem.W.fnOf "is_paper" "is_paper" (defArgs (top 18)) (defBody (top 18)) (defScope (top 18)) .none kV doc pm an cdv ct) ⟨us, []⟩ = pure ((f_p_is_paper c g).ps.zip us) :=
  match us, h with
  | [_, _], _ => rfl
theorem k_p_is_value : (ckS tab (Nv.S2.f_p_is_value c g).ns (Nv.S2.f_p_is_value c g).body).l (defScope (top 19)) (defBody (top 19)) = true := by decide +kernel
theorem s_p_is_value : FnScope (Nv.S2.f_p_is_value c g).ns (Nv.S2.f_p_is_value c g).ps (defScope (top 19)) := ⟨rfl, rfl, rfl, by decide +kernel, rfl, by decide +kernel, by decide +kernel⟩
theorem a_p_is_value (kV doc pm : Value) (an : Option Addr) (cdv ct : Value) (us : List Value) (h : us.length = (Nv.S2.f_p_is_value c g).ps.length) : bindArgs (PySem.W.fnOf "is_value" "is_value" (defArgs (top 19)) (defBody (top 19)) (defScope (top 19)) .none kV doc pm an cdv ct) ⟨us, []⟩ = pure ((Nv.S2.f_p_is_value c g).ps.zip us) :=
  match us, h with
  | [_, _], _ => rfl
theorem k_p_is_word : (ckS tab (Nv.S2.f_p_is_word c g).ns (Nv.S2.f_p_is_word c g).body).l (defScope (top 27)) (defBody (top 27)) = true := by decide +kernel
theorem s_p_is_word : FnScope (Nv.S2.f_p_is_word c g).ns (Nv.S2.f_p_is_word c g).ps (defScope (top 27)) := ⟨rfl, rfl, rfl, by decide +kernel, rfl, by decide +kernel, by decide +kernel⟩
theorem a_p_is_word (kV doc pm : Value) (an : Option Addr) (cdv ct : Value) (us : List Value) (h : us.length = (Nv.S2.f_p_is_word c g).ps.length) : bindArgs (PySem.W.fnOf "is_word" "is_word" (defArgs (top 27)) (defBody (top 27)) (defScope (top 27)) .none kV doc pm an cdv ct) ⟨us, []⟩ = pure ((Nv.S2.f_p_is_word c g).ps.zip us) :=
  match us, h with
  | [_], _ => rfl
theorem k_p_are_rows_questions : (ckS tab (Nv.S2.f_p_are_rows_questions c g).ns (Nv.S2.f_p_are_rows_questions c g).body).l (defScope (top 28)) (defBody (top 28)) = true := by decide +kernel
theorem s_p_are_rows_questions : FnScope (Nv.S2.f_p_are_rows_questions c g).ns (Nv.S2.f_p_are_rows_questions c g).ps (defScope (top 28)) := ⟨rfl, rfl, rfl, by decide +kernel, rfl, by decide +kernel, by decide +kernel⟩
theorem a_p_are_rows_questions (kV doc pm : Value) (an : Option Addr) (cdv ct : Value) (us : List Value) (h : us.length = (Nv.S2.f_p_are_rows_questions c g).ps.length) : bindArgs (PySem.W.fnOf "are_rows" "are_rows" (defArgs (top 28)) (defBody (top 28)) (defScope (top 28)) .none kV doc pm an cdv ct) ⟨us, []⟩ = pure ((Nv.S2.f_p_are_rows_questions c g).ps.zip us) :=
  match us, h with
  | [_, _], _ => rfl
theorem k_p_is_rowed : (ckS tab (Nv.S2.f_p_is_rowed c g).ns (Nv.S2.f_p_is_rowed c g).body).l (defScope (top 30)) (defBody (top 30)) = true := by decide +kernel
theorem s_p_is_rowed : FnScope (Nv.S2.f_p_is_rowed c g).ns (Nv.S2.f_p_is_rowed c g).ps (defScope (top 30)) := ⟨rfl, rfl, rfl, by decide +kernel, rfl, by decide +kernel, by decide +kernel⟩
theorem a_p_is_rowed (kV doc pm : Value) (an : Option Addr) (cdv ct : Value) (us : List Value) (h : us.length = (Nv.S2.f_p_is_rowed c g).ps.length) : bindArgs (PySem.W.fnOf "is_rowed" "is_rowed" (defArgs (top 30)) (defBody (top 30)) (defScope (top 30)) .none kV doc pm an cdv ct) ⟨us, []⟩ = pure ((Nv.S2.f_p_is_rowed c g).ps.zip us) :=
  match us, h with
  | [_], _ => rfl
theorem k_p_is_made : (ckS tab (Nv.S2.f_p_is_made c g).ns (Nv.S2.f_p_is_made c g).body).l (defScope (top 31)) (defBody (top 31)) = true := by decide +kernel
theorem s_p_is_made : FnScope (Nv.S2.f_p_is_made c g).ns (Nv.S2.f_p_is_made c g).ps (defScope (top 31)) := ⟨rfl, rfl, rfl, by decide +kernel, rfl, by decide +kernel, by decide +kernel⟩
theorem a_p_is_made (kV doc pm : Value) (an : Option Addr) (cdv ct : Value) (us : List Value) (h : us.length = (Nv.S2.f_p_is_made c g).ps.length) : bindArgs (PySem.W.fnOf "is_made" "is_made" (defArgs (top 31)) (defBody (top 31)) (defScope (top 31)) .none kV doc pm an cdv ct) ⟨us, []⟩ = pure ((Nv.S2.f_p_is_made c g).ps.zip us) :=
  match us, h with
  | [_], _ => rfl
theorem k_p_is_question : (ckS tab (Nv.S2.f_p_is_question c g).ns (Nv.S2.f_p_is_question c g).body).l (defScope (top 32)) (defBody (top 32)) = true := by decide +kernel
theorem s_p_is_question : FnScope (Nv.S2.f_p_is_question c g).ns (Nv.S2.f_p_is_question c g).ps (defScope (top 32)) := ⟨rfl, rfl, rfl, by decide +kernel, rfl, by decide +kernel, by decide +kernel⟩
theorem a_p_is_question (kV doc pm : Value) (an : Option Addr) (cdv ct : Value) (us : List Value) (h : us.length = (Nv.S2.f_p_is_question c g).ps.length) : bindArgs (PySem.W.fnOf "is_question" "is_question" (defArgs (top 32)) (defBody (top 32)) (defScope (top 32)) .none kV doc pm an cdv ct) ⟨us, []⟩ = pure ((Nv.S2.f_p_is_question c g).ps.zip us) :=
  match us, h with
  | [_], _ => rfl
theorem k_p_parts : (ckS tab (Nv.S2.f_p_parts c g).ns (Nv.S2.f_p_parts c g).body).l (defScope (top 33)) (defBody (top 33)) = true := by decide +kernel
theorem s_p_parts : FnScope (Nv.S2.f_p_parts c g).ns (Nv.S2.f_p_parts c g).ps (defScope (top 33)) := ⟨rfl, rfl, rfl, by decide +kernel, rfl, by decide +kernel, by decide +kernel⟩
theorem a_p_parts (kV doc pm : Value) (an : Option Addr) (cdv ct : Value) (us : List Value) (h : us.length = (Nv.S2.f_p_parts c g).ps.length) : bindArgs (PySem.W.fnOf "parts" "parts" (defArgs (top 33)) (defBody (top 33)) (defScope (top 33)) .none kV doc pm an cdv ct) ⟨us, []⟩ = pure ((Nv.S2.f_p_parts c g).ps.zip us) :=
  match us, h with
  | [_], _ => rfl
theorem k_cell : (ckS tab (Nv.S2.f_cell c g).ns (Nv.S2.f_cell c g).body).l (defScope (top 35)) (defBody (top 35)) = true := by decide +kernel
theorem s_cell : FnScope (Nv.S2.f_cell c g).ns (Nv.S2.f_cell c g).ps (defScope (top 35)) := ⟨rfl, rfl, rfl, by decide +kernel, rfl, by decide +kernel, by decide +kernel⟩
theorem a_cell (kV doc pm : Value) (an : Option Addr) (cdv ct : Value) (us : List Value) (h : us.length = (Nv.S2.f_cell c g).ps.length) : bindArgs (PySem.W.fnOf "_law_cell" "_law_cell" (defArgs (top 35)) (defBody (top 35)) (defScope (top 35)) .none kV doc pm an cdv ct) ⟨us, []⟩ = pure ((Nv.S2.f_cell c g).ps.zip us) :=
  match us, h with
  | [_, _], _ => rfl
theorem k_pot : (ckS tab (Nv.S2.f_pot c g).ns (Nv.S2.f_pot c g).body).l (defScope (top 36)) (defBody (top 36)) = true := by decide +kernel
theorem s_pot : FnScope (Nv.S2.f_pot c g).ns (Nv.S2.f_pot c g).ps (defScope (top 36)) := ⟨rfl, rfl, rfl, by decide +kernel, rfl, by decide +kernel, by decide +kernel⟩
theorem a_pot (kV doc pm : Value) (an : Option Addr) (cdv ct : Value) (us : List Value) (h : us.length = (Nv.S2.f_pot c g).ps.length) : bindArgs (PySem.W.fnOf "_law_pot" "_law_pot" (defArgs (top 36)) (defBody (top 36)) (defScope (top 36)) .none kV doc pm an cdv ct) ⟨us, []⟩ = pure ((Nv.S2.f_pot c g).ps.zip us) :=
  match us, h with
  | [_, _], _ => rfl
theorem k_digit : (ckS tab (Nv.S2.f_digit c g).ns (Nv.S2.f_digit c g).body).l (defScope (top 37)) (defBody (top 37)) = true := by decide +kernel
theorem s_digit : FnScope (Nv.S2.f_digit c g).ns (Nv.S2.f_digit c g).ps (defScope (top 37)) := ⟨rfl, rfl, rfl, by decide +kernel, rfl, by decide +kernel, by decide +kernel⟩
theorem a_digit (kV doc pm : Value) (an : Option Addr) (cdv ct : Value) (us : List Value) (h : us.length = (Nv.S2.f_digit c g).ps.length) : bindArgs (PySem.W.fnOf "_law_digit" "_law_digit" (defArgs (top 37)) (defBody (top 37)) (defScope (top 37)) .none kV doc pm an cdv ct) ⟨us, []⟩ = pure ((Nv.S2.f_digit c g).ps.zip us) :=
  match us, h with
  | [_, _], _ => rfl
theorem k_name : (ckS tab (Nv.S2.f_name c g).ns (Nv.S2.f_name c g).body).l (defScope (top 38)) (defBody (top 38)) = true := by decide +kernel
theorem s_name : FnScope (Nv.S2.f_name c g).ns (Nv.S2.f_name c g).ps (defScope (top 38)) := ⟨rfl, rfl, rfl, by decide +kernel, rfl, by decide +kernel, by decide +kernel⟩
theorem a_name (kV doc pm : Value) (an : Option Addr) (cdv ct : Value) (us : List Value) (h : us.length = (Nv.S2.f_name c g).ps.length) : bindArgs (PySem.W.fnOf "_law_name" "_law_name" (defArgs (top 38)) (defBody (top 38)) (defScope (top 38)) .none kV doc pm an cdv ct) ⟨us, []⟩ = pure ((Nv.S2.f_name c g).ps.zip us) :=
  match us, h with
  | [_], _ => rfl
theorem k_names : (ckS tab (Nv.S2.f_names c g).ns (Nv.S2.f_names c g).body).l (defScope (top 39)) (defBody (top 39)) = true := by decide +kernel
theorem s_names : FnScope (Nv.S2.f_names c g).ns (Nv.S2.f_names c g).ps (defScope (top 39)) := ⟨rfl, rfl, rfl, by decide +kernel, rfl, by decide +kernel, by decide +kernel⟩
theorem a_names (kV doc pm : Value) (an : Option Addr) (cdv ct : Value) (us : List Value) (h : us.length = (Nv.S2.f_names c g).ps.length) : bindArgs (PySem.W.fnOf "_law_names" "_law_names" (defArgs (top 39)) (defBody (top 39)) (defScope (top 39)) .none kV doc pm an cdv ct) ⟨us, []⟩ = pure ((Nv.S2.f_names c g).ps.zip us) :=
  match us, h with
  | [_, _], _ => rfl
theorem k_kind : (ckS tab (Nv.S2.f_kind c g).ns (Nv.S2.f_kind c g).body).l (defScope (top 40)) (defBody (top 40)) = true := by decide +kernel
theorem s_kind : FnScope (Nv.S2.f_kind c g).ns (Nv.S2.f_kind c g).ps (defScope (top 40)) := ⟨rfl, rfl, rfl, by decide +kernel, rfl, by decide +kernel, by decide +kernel⟩
theorem a_kind (kV doc pm : Value) (an : Option Addr) (cdv ct : Value) (us : List Value) (h : us.length = (Nv.S2.f_kind c g).ps.length) : bindArgs (PySem.W.fnOf "_law_kind" "_law_kind" (defArgs (top 40)) (defBody (top 40)) (defScope (top 40)) .none kV doc pm an cdv ct) ⟨us, []⟩ = pure ((Nv.S2.f_kind c g).ps.zip us) :=
  match us, h with
  | [_, _, _], _ => rfl
theorem k_choice : (ckS tab (Nv.S2.f_choice c g).ns (Nv.S2.f_choice c g).body).l (defScope (top 41)) (defBody (top 41)) = true := by decide +kernel
theorem s_choice : FnScope (Nv.S2.f_choice c g).ns (Nv.S2.f_choice c g).ps (defScope (top 41)) := ⟨rfl, rfl, rfl, by decide +kernel, rfl, by decide +kernel, by decide +kernel⟩
theorem a_choice (kV doc pm : Value) (an : Option Addr) (cdv ct : Value) (us : List Value) (h : us.length = (Nv.S2.f_choice c g).ps.length) : bindArgs (PySem.W.fnOf "_law_choice" "_law_choice" (defArgs (top 41)) (defBody (top 41)) (defScope (top 41)) .none kV doc pm an cdv ct) ⟨us, []⟩ = pure ((Nv.S2.f_choice c g).ps.zip us) :=
  match us, h with
  | [_], _ => rfl
theorem k_signs : (ckS tab (Nv.S2.f_signs c g).ns (Nv.S2.f_signs c g).body).l (defScope (top 42)) (defBody (top 42)) = true := by decide +kernel
theorem s_signs : FnScope (Nv.S2.f_signs c g).ns (Nv.S2.f_signs c g).ps (defScope (top 42)) := ⟨rfl, rfl, rfl, by decide +kernel, rfl, by decide +kernel, by decide +kernel⟩
theorem a_signs (kV doc pm : Value) (an : Option Addr) (cdv ct : Value) (us : List Value) (h : us.length = (Nv.S2.f_signs c g).ps.length) : bindArgs (PySem.W.fnOf "_law_signs" "_law_signs" (defArgs (top 42)) (defBody (top 42)) (defScope (top 42)) .none kV doc pm an cdv ct) ⟨us, []⟩ = pure ((Nv.S2.f_signs c g).ps.zip us) :=
  match us, h with
  | [_], _ => rfl
theorem k_leaf : (ckS tab (Nv.S2.f_leaf c g).ns (Nv.S2.f_leaf c g).body).l (defScope (top 43)) (defBody (top 43)) = true := by decide +kernel
theorem s_leaf : FnScope (Nv.S2.f_leaf c g).ns (Nv.S2.f_leaf c g).ps (defScope (top 43)) := ⟨rfl, rfl, rfl, by decide +kernel, rfl, by decide +kernel, by decide +kernel⟩
theorem a_leaf (kV doc pm : Value) (an : Option Addr) (cdv ct : Value) (us : List Value) (h : us.length = (Nv.S2.f_leaf c g).ps.length) : bindArgs (PySem.W.fnOf "_law_leaf" "_law_leaf" (defArgs (top 43)) (defBody (top 43)) (defScope (top 43)) .none kV doc pm an cdv ct) ⟨us, []⟩ = pure ((Nv.S2.f_leaf c g).ps.zip us) :=
  match us, h with
  | [_, _], _ => rfl
theorem k_rowed : (ckS tab (Nv.S2.f_rowed c g).ns (Nv.S2.f_rowed c g).body).l (defScope (top 44)) (defBody (top 44)) = true := by decide +kernel
theorem s_rowed : FnScope (Nv.S2.f_rowed c g).ns (Nv.S2.f_rowed c g).ps (defScope (top 44)) := ⟨rfl, rfl, rfl, by decide +kernel, rfl, by decide +kernel, by decide +kernel⟩
theorem a_rowed (kV doc pm : Value) (an : Option Addr) (cdv ct : Value) (us : List Value) (h : us.length = (Nv.S2.f_rowed c g).ps.length) : bindArgs (PySem.W.fnOf "_law_rowed" "_law_rowed" (defArgs (top 44)) (defBody (top 44)) (defScope (top 44)) .none kV doc pm an cdv ct) ⟨us, []⟩ = pure ((Nv.S2.f_rowed c g).ps.zip us) :=
  match us, h with
  | [_, _, _], _ => rfl
theorem k_question : (ckS tab (Nv.S2.f_question c g).ns (Nv.S2.f_question c g).body).l (defScope (top 45)) (defBody (top 45)) = true := by decide +kernel
theorem s_question : FnScope (Nv.S2.f_question c g).ns (Nv.S2.f_question c g).ps (defScope (top 45)) := ⟨rfl, rfl, rfl, by decide +kernel, rfl, by decide +kernel, by decide +kernel⟩
theorem a_question (kV doc pm : Value) (an : Option Addr) (cdv ct : Value) (us : List Value) (h : us.length = (Nv.S2.f_question c g).ps.length) : bindArgs (PySem.W.fnOf "_law_question" "_law_question" (defArgs (top 45)) (defBody (top 45)) (defScope (top 45)) .none kV doc pm an cdv ct) ⟨us, []⟩ = pure ((Nv.S2.f_question c g).ps.zip us) :=
  match us, h with
  | [_, _], _ => rfl
theorem k_parts : (ckS tab (Nv.S2.f_parts c g).ns (Nv.S2.f_parts c g).body).l (defScope (top 46)) (defBody (top 46)) = true := by decide +kernel
theorem s_parts : FnScope (Nv.S2.f_parts c g).ns (Nv.S2.f_parts c g).ps (defScope (top 46)) := ⟨rfl, rfl, rfl, by decide +kernel, rfl, by decide +kernel, by decide +kernel⟩
theorem a_parts (kV doc pm : Value) (an : Option Addr) (cdv ct : Value) (us : List Value) (h : us.length = (Nv.S2.f_parts c g).ps.length) : bindArgs (PySem.W.fnOf "_law_parts" "_law_parts" (defArgs (top 46)) (defBody (top 46)) (defScope (top 46)) .none kV doc pm an cdv ct) ⟨us, []⟩ = pure ((Nv.S2.f_parts c g).ps.zip us) :=
  match us, h with
  | [_], _ => rfl
theorem k_places : (ckS tab (Nv.S2.f_places c g).ns (Nv.S2.f_places c g).body).l (defScope (top 47)) (defBody (top 47)) = true := by decide +kernel
theorem s_places : FnScope (Nv.S2.f_places c g).ns (Nv.S2.f_places c g).ps (defScope (top 47)) := ⟨rfl, rfl, rfl, by decide +kernel, rfl, by decide +kernel, by decide +kernel⟩
theorem a_places (kV doc pm : Value) (an : Option Addr) (cdv ct : Value) (us : List Value) (h : us.length = (Nv.S2.f_places c g).ps.length) : bindArgs (PySem.W.fnOf "_law_places" "_law_places" (defArgs (top 47)) (defBody (top 47)) (defScope (top 47)) .none kV doc pm an cdv ct) ⟨us, []⟩ = pure ((Nv.S2.f_places c g).ps.zip us) :=
  match us, h with
  | [_], _ => rfl
theorem k_with : (ckS tab (Nv.S2.f_with c g).ns (Nv.S2.f_with c g).body).l (defScope (top 48)) (defBody (top 48)) = true := by decide +kernel
theorem s_with : FnScope (Nv.S2.f_with c g).ns (Nv.S2.f_with c g).ps (defScope (top 48)) := ⟨rfl, rfl, rfl, by decide +kernel, rfl, by decide +kernel, by decide +kernel⟩
theorem a_with (kV doc pm : Value) (an : Option Addr) (cdv ct : Value) (us : List Value) (h : us.length = (Nv.S2.f_with c g).ps.length) : bindArgs (PySem.W.fnOf "_law_with" "_law_with" (defArgs (top 48)) (defBody (top 48)) (defScope (top 48)) .none kV doc pm an cdv ct) ⟨us, []⟩ = pure ((Nv.S2.f_with c g).ps.zip us) :=
  match us, h with
  | [_, _, _], _ => rfl
theorem k_odd_things : (ckS tab (f_odd_things c g).ns (f_odd_things c g).body).l (defScope (top 49)) (defBody (top 49)) = true := by decide +kernel
theorem s_odd_things : FnScope (f_odd_things c g).ns (f_odd_things c g).ps (defScope (top 49)) := ⟨rfl, rfl, rfl, by decide +kernel, rfl, by decide +kernel, by decide +kernel⟩
theorem a_odd_things (kV doc pm : Value) (an : Option Addr) (cdv ct : Value) (us : List Value) (h : us.length = (f_odd_things c g).ps.length) : bindArgs (PySem.W.fnOf "_law_odd_things" "_law_odd_things" (defArgs (top 49)) (defBody (top 49)) (defScope (top 49)) .none kV doc pm an cdv ct) ⟨us, []⟩ = pure ((f_odd_things c g).ps.zip us) :=
  match us, h with
  | [_], _ => rfl
theorem k_right : (ckS tab (f_right c g).ns (f_right c g).body).l (defScope (top 50)) (defBody (top 50)) = true := by decide +kernel
theorem s_right : FnScope (f_right c g).ns (f_right c g).ps (defScope (top 50)) := ⟨rfl, rfl, rfl, by decide +kernel, rfl, by decide +kernel, by decide +kernel⟩
theorem a_right (kV doc pm : Value) (an : Option Addr) (cdv ct : Value) (us : List Value) (h : us.length = (f_right c g).ps.length) : bindArgs (PySem.W.fnOf "_law_right" "_law_right" (defArgs (top 50)) (defBody (top 50)) (defScope (top 50)) .none kV doc pm an cdv ct) ⟨us, []⟩ = pure ((f_right c g).ps.zip us) :=
  match us, h with
  | [_], _ => rfl
theorem k_p_law : (ckS tab (f_p_law c g).ns (f_p_law c g).body).l (defScope (top 51)) (defBody (top 51)) = true := by decide +kernel
theorem s_p_law : FnScope (f_p_law c g).ns (f_p_law c g).ps (defScope (top 51)) := ⟨rfl, rfl, rfl, by decide +kernel, rfl, by decide +kernel, by decide +kernel⟩
theorem a_p_law (kV doc pm : Value) (an : Option Addr) (cdv ct : Value) (us : List Value) (h : us.length = (f_p_law c g).ps.length) : bindArgs (PySem.W.fnOf "law" "law" (defArgs (top 51)) (defBody (top 51)) (defScope (top 51)) .none kV doc pm an cdv ct) ⟨us, []⟩ = pure ((f_p_law c g).ps.zip us) :=
  match us, h with
  | [_], _ => rfl
theorem all_mk {K : PySem.W.Frag} {w : World} {h : Heap} {mg : Str → Option Value} (X : K.In h) (G : h.Ns mainGlobals mg)
    {od0 an0 : Option Addr} {sl0 : Array (Option Value)} {f0 : Addr} {oc0 kV0 dc0 pm0 cd0 ct0 : Value}
    (a0 : PySem.W.nsIn K mainGlobals "is_name" = some (some (.ref f0))) (l0 : K.lookup f0 = some ⟨oc0, od0, .func (PySem.W.fnOf "is_name" "is_name" (defArgs (top 4)) (defBody (top 4)) (defScope (top 4)) .none kV0 dc0 pm0 an0 cd0 ct0), sl0⟩) (c0 : PySem.W.codeIn K cd0 "is_name" = true) (k0 : PySem.W.keepIn K (.ref f0) = true)
    {od1 an1 : Option Addr} {sl1 : Array (Option Value)} {f1 : Addr} {oc1 kV1 dc1 pm1 cd1 ct1 : Value}
    (a1 : PySem.W.nsIn K mainGlobals "is_row" = some (some (.ref f1))) (l1 : K.lookup f1 = some ⟨oc1, od1, .func (PySem.W.fnOf "is_row" "is_row" (defArgs (top 5)) (defBody (top 5)) (defScope (top 5)) .none kV1 dc1 pm1 an1 cd1 ct1), sl1⟩) (c1 : PySem.W.codeIn K cd1 "is_row" = true) (k1 : PySem.W.keepIn K (.ref f1) = true)
    {od2 an2 : Option Addr} {sl2 : Array (Option Value)} {f2 : Addr} {oc2 kV2 dc2 pm2 cd2 ct2 : Value}
    (a2 : PySem.W.nsIn K mainGlobals "are_rows_kinds" = some (some (.ref f2))) (l2 : K.lookup f2 = some ⟨oc2, od2, .func (PySem.W.fnOf "are_rows" "are_rows" (defArgs (top 6)) (defBody (top 6)) (defScope (top 6)) .none kV2 dc2 pm2 an2 cd2 ct2), sl2⟩) (c2 : PySem.W.codeIn K cd2 "are_rows" = true) (k2 : PySem.W.keepIn K (.ref f2) = true)
    {od3 an3 : Option Addr} {sl3 : Array (Option Value)} {f3 : Addr} {oc3 kV3 dc3 pm3 cd3 ct3 : Value}
    (a3 : PySem.W.nsIn K mainGlobals "is_kind" = some (some (.ref f3))) (l3 : K.lookup f3 = some ⟨oc3, od3, .func (PySem.W.fnOf "is_kind" "is_kind" (defArgs (top 8)) (defBody (top 8)) (defScope (top 8)) .none kV3 dc3 pm3 an3 cd3 ct3), sl3⟩) (c3 : PySem.W.codeIn K cd3 "is_kind" = true) (k3 : PySem.W.keepIn K (.ref f3) = true)
    {od4 an4 : Option Addr} {sl4 : Array (Option Value)} {f4 : Addr} {oc4 kV4 dc4 pm4 cd4 ct4 : Value}
    (a4 : PySem.W.nsIn K mainGlobals "is_flat" = some (some (.ref f4))) (l4 : K.lookup f4 = some ⟨oc4, od4, .func (PySem.W.fnOf "is_flat" "is_flat" (defArgs (top 9)) (defBody (top 9)) (defScope (top 9)) .none kV4 dc4 pm4 an4 cd4 ct4), sl4⟩) (c4 : PySem.W.codeIn K cd4 "is_flat" = true) (k4 : PySem.W.keepIn K (.ref f4) = true)
    {od5 an5 : Option Addr} {sl5 : Array (Option Value)} {f5 : Addr} {oc5 kV5 dc5 pm5 cd5 ct5 : Value}
    (a5 : PySem.W.nsIn K mainGlobals "row_kind" = some (some (.ref f5))) (l5 : K.lookup f5 = some ⟨oc5, od5, .func (PySem.W.fnOf "row_kind" "row_kind" (defArgs (top 10)) (defBody (top 10)) (defScope (top 10)) .none kV5 dc5 pm5 an5 cd5 ct5), sl5⟩) (c5 : PySem.W.codeIn K cd5 "row_kind" = true) (k5 : PySem.W.keepIn K (.ref f5) = true)
    {od6 an6 : Option Addr} {sl6 : Array (Option Value)} {f6 : Addr} {oc6 kV6 dc6 pm6 cd6 ct6 : Value}
    (a6 : PySem.W.nsIn K mainGlobals "is_whole" = some (some (.ref f6))) (l6 : K.lookup f6 = some ⟨oc6, od6, .func (PySem.W.fnOf "is_whole" "is_whole" (defArgs (top 13)) (defBody (top 13)) (defScope (top 13)) .none kV6 dc6 pm6 an6 cd6 ct6), sl6⟩) (c6 : PySem.W.codeIn K cd6 "is_whole" = true) (k6 : PySem.W.keepIn K (.ref f6) = true)
    {od7 an7 : Option Addr} {sl7 : Array (Option Value)} {f7 : Addr} {oc7 kV7 dc7 pm7 cd7 ct7 : Value}
    (a7 : PySem.W.nsIn K mainGlobals "is_text" = some (some (.ref f7))) (l7 : K.lookup f7 = some ⟨oc7, od7, .func (PySem.W.fnOf "is_text" "is_text" (defArgs (top 14)) (defBody (top 14)) (defScope (top 14)) .none kV7 dc7 pm7 an7 cd7 ct7), sl7⟩) (c7 : PySem.W.codeIn K cd7 "is_text" = true) (k7 : PySem.W.keepIn K (.ref f7) = true)
    {od8 an8 : Option Addr} {sl8 : Array (Option Value)} {f8 : Addr} {oc8 kV8 dc8 pm8 cd8 ct8 : Value}
    (a8 : PySem.W.nsIn K mainGlobals "is_record" = some (some (.ref f8))) (l8 : K.lookup f8 = some ⟨oc8, od8, .func (PySem.W.fnOf "is_record" "is_record" (defArgs (top 15)) (defBody (top 15)) (defScope (top 15)) .none kV8 dc8 pm8 an8 cd8 ct8), sl8⟩) (c8 : PySem.W.codeIn K cd8 "is_record" = true) (k8 : PySem.W.keepIn K (.ref f8) = true)
    {od9 an9 : Option Addr} {sl9 : Array (Option Value)} {f9 : Addr} {oc9 kV9 dc9 pm9 cd9 ct9 : Value}
    (a9 : PySem.W.nsIn K mainGlobals "is_choice" = some (some (.ref f9))) (l9 : K.lookup f9 = some ⟨oc9, od9, .func (PySem.W.fnOf "is_choice" "is_choice" (defArgs (top 16)) (defBody (top 16)) (defScope (top 16)) .none kV9 dc9 pm9 an9 cd9 ct9), sl9⟩) (c9 : PySem.W.codeIn K cd9 "is_choice" = true) (k9 : PySem.W.keepIn K (.ref f9) = true)
    {od10 an10 : Option Addr} {sl10 : Array (Option Value)} {f10 : Addr} {oc10 kV10 dc10 pm10 cd10 ct10 : Value}
    (a10 : PySem.W.nsIn K mainGlobals "is_counted" = some (some (.ref f10))) (l10 : K.lookup f10 = some ⟨oc10, od10, .func (PySem.W.fnOf "is_counted" "is_counted" (defArgs (top 17)) (defBody (top 17)) (defScope (top 17)) .none kV10 dc10 pm10 an10 cd10 ct10), sl10⟩) (c10 : PySem.W.codeIn K cd10 "is_counted" = true) (k10 : PySem.W.keepIn K (.ref f10) = true)
    {od11 an11 : Option Addr} {sl11 : Array (Option Value)} {f11 : Addr} {oc11 kV11 dc11 pm11 cd11 ct11 : Value}
    (a11 : PySem.W.nsIn K mainGlobals "is_paper" = some (some (.ref f11))) (l11 : K.lookup f11 = some ⟨oc11, od11, .func (PySem.W.fnOf "is_paper" "is_paper" (defArgs (top 18)) (defBody (top 18)) (defScope (top 18)) .none kV11 dc11 pm11 an11 cd11 ct11), sl11⟩) (c11 : PySem.W.codeIn K cd11 "is_paper" = true) (k11 : PySem.W.keepIn K (.ref f11) = true)
    {od12 an12 : Option Addr} {sl12 : Array (Option Value)} {f12 : Addr} {oc12 kV12 dc12 pm12 cd12 ct12 : Value}
    (a12 : PySem.W.nsIn K mainGlobals "is_value" = some (some (.ref f12))) (l12 : K.lookup f12 = some ⟨oc12, od12, .func (PySem.W.fnOf "is_value" "is_value" (defArgs (top 19)) (defBody (top 19)) (defScope (top 19)) .none kV12 dc12 pm12 an12 cd12 ct12), sl12⟩) (c12 : PySem.W.codeIn K cd12 "is_value" = true) (k12 : PySem.W.keepIn K (.ref f12) = true)
    {od13 an13 : Option Addr} {sl13 : Array (Option Value)} {f13 : Addr} {oc13 kV13 dc13 pm13 cd13 ct13 : Value}
    (a13 : PySem.W.nsIn K mainGlobals "is_word" = some (some (.ref f13))) (l13 : K.lookup f13 = some ⟨oc13, od13, .func (PySem.W.fnOf "is_word" "is_word" (defArgs (top 27)) (defBody (top 27)) (defScope (top 27)) .none kV13 dc13 pm13 an13 cd13 ct13), sl13⟩) (c13 : PySem.W.codeIn K cd13 "is_word" = true) (k13 : PySem.W.keepIn K (.ref f13) = true)
    {od14 an14 : Option Addr} {sl14 : Array (Option Value)} {f14 : Addr} {oc14 kV14 dc14 pm14 cd14 ct14 : Value}
    (a14 : PySem.W.nsIn K mainGlobals "are_rows_questions" = some (some (.ref f14))) (l14 : K.lookup f14 = some ⟨oc14, od14, .func (PySem.W.fnOf "are_rows" "are_rows" (defArgs (top 28)) (defBody (top 28)) (defScope (top 28)) .none kV14 dc14 pm14 an14 cd14 ct14), sl14⟩) (c14 : PySem.W.codeIn K cd14 "are_rows" = true) (k14 : PySem.W.keepIn K (.ref f14) = true)
    {od15 an15 : Option Addr} {sl15 : Array (Option Value)} {f15 : Addr} {oc15 kV15 dc15 pm15 cd15 ct15 : Value}
    (a15 : PySem.W.nsIn K mainGlobals "is_rowed" = some (some (.ref f15))) (l15 : K.lookup f15 = some ⟨oc15, od15, .func (PySem.W.fnOf "is_rowed" "is_rowed" (defArgs (top 30)) (defBody (top 30)) (defScope (top 30)) .none kV15 dc15 pm15 an15 cd15 ct15), sl15⟩) (c15 : PySem.W.codeIn K cd15 "is_rowed" = true) (k15 : PySem.W.keepIn K (.ref f15) = true)
    {od16 an16 : Option Addr} {sl16 : Array (Option Value)} {f16 : Addr} {oc16 kV16 dc16 pm16 cd16 ct16 : Value}
    (a16 : PySem.W.nsIn K mainGlobals "is_made" = some (some (.ref f16))) (l16 : K.lookup f16 = some ⟨oc16, od16, .func (PySem.W.fnOf "is_made" "is_made" (defArgs (top 31)) (defBody (top 31)) (defScope (top 31)) .none kV16 dc16 pm16 an16 cd16 ct16), sl16⟩) (c16 : PySem.W.codeIn K cd16 "is_made" = true) (k16 : PySem.W.keepIn K (.ref f16) = true)
    {od17 an17 : Option Addr} {sl17 : Array (Option Value)} {f17 : Addr} {oc17 kV17 dc17 pm17 cd17 ct17 : Value}
    (a17 : PySem.W.nsIn K mainGlobals "is_question" = some (some (.ref f17))) (l17 : K.lookup f17 = some ⟨oc17, od17, .func (PySem.W.fnOf "is_question" "is_question" (defArgs (top 32)) (defBody (top 32)) (defScope (top 32)) .none kV17 dc17 pm17 an17 cd17 ct17), sl17⟩) (c17 : PySem.W.codeIn K cd17 "is_question" = true) (k17 : PySem.W.keepIn K (.ref f17) = true)
    {od18 an18 : Option Addr} {sl18 : Array (Option Value)} {f18 : Addr} {oc18 kV18 dc18 pm18 cd18 ct18 : Value}
    (a18 : PySem.W.nsIn K mainGlobals "parts" = some (some (.ref f18))) (l18 : K.lookup f18 = some ⟨oc18, od18, .func (PySem.W.fnOf "parts" "parts" (defArgs (top 33)) (defBody (top 33)) (defScope (top 33)) .none kV18 dc18 pm18 an18 cd18 ct18), sl18⟩) (c18 : PySem.W.codeIn K cd18 "parts" = true) (k18 : PySem.W.keepIn K (.ref f18) = true)
    {od19 an19 : Option Addr} {sl19 : Array (Option Value)} {f19 : Addr} {oc19 kV19 dc19 pm19 cd19 ct19 : Value}
    (a19 : PySem.W.nsIn K mainGlobals "_law_cell" = some (some (.ref f19))) (l19 : K.lookup f19 = some ⟨oc19, od19, .func (PySem.W.fnOf "_law_cell" "_law_cell" (defArgs (top 35)) (defBody (top 35)) (defScope (top 35)) .none kV19 dc19 pm19 an19 cd19 ct19), sl19⟩) (c19 : PySem.W.codeIn K cd19 "_law_cell" = true) (k19 : PySem.W.keepIn K (.ref f19) = true)
    {od20 an20 : Option Addr} {sl20 : Array (Option Value)} {f20 : Addr} {oc20 kV20 dc20 pm20 cd20 ct20 : Value}
    (a20 : PySem.W.nsIn K mainGlobals "_law_pot" = some (some (.ref f20))) (l20 : K.lookup f20 = some ⟨oc20, od20, .func (PySem.W.fnOf "_law_pot" "_law_pot" (defArgs (top 36)) (defBody (top 36)) (defScope (top 36)) .none kV20 dc20 pm20 an20 cd20 ct20), sl20⟩) (c20 : PySem.W.codeIn K cd20 "_law_pot" = true) (k20 : PySem.W.keepIn K (.ref f20) = true)
    {od21 an21 : Option Addr} {sl21 : Array (Option Value)} {f21 : Addr} {oc21 kV21 dc21 pm21 cd21 ct21 : Value}
    (a21 : PySem.W.nsIn K mainGlobals "_law_digit" = some (some (.ref f21))) (l21 : K.lookup f21 = some ⟨oc21, od21, .func (PySem.W.fnOf "_law_digit" "_law_digit" (defArgs (top 37)) (defBody (top 37)) (defScope (top 37)) .none kV21 dc21 pm21 an21 cd21 ct21), sl21⟩) (c21 : PySem.W.codeIn K cd21 "_law_digit" = true) (k21 : PySem.W.keepIn K (.ref f21) = true)
    {od22 an22 : Option Addr} {sl22 : Array (Option Value)} {f22 : Addr} {oc22 kV22 dc22 pm22 cd22 ct22 : Value}
    (a22 : PySem.W.nsIn K mainGlobals "_law_name" = some (some (.ref f22))) (l22 : K.lookup f22 = some ⟨oc22, od22, .func (PySem.W.fnOf "_law_name" "_law_name" (defArgs (top 38)) (defBody (top 38)) (defScope (top 38)) .none kV22 dc22 pm22 an22 cd22 ct22), sl22⟩) (c22 : PySem.W.codeIn K cd22 "_law_name" = true) (k22 : PySem.W.keepIn K (.ref f22) = true)
    {od23 an23 : Option Addr} {sl23 : Array (Option Value)} {f23 : Addr} {oc23 kV23 dc23 pm23 cd23 ct23 : Value}
    (a23 : PySem.W.nsIn K mainGlobals "_law_names" = some (some (.ref f23))) (l23 : K.lookup f23 = some ⟨oc23, od23, .func (PySem.W.fnOf "_law_names" "_law_names" (defArgs (top 39)) (defBody (top 39)) (defScope (top 39)) .none kV23 dc23 pm23 an23 cd23 ct23), sl23⟩) (c23 : PySem.W.codeIn K cd23 "_law_names" = true) (k23 : PySem.W.keepIn K (.ref f23) = true)
    {od24 an24 : Option Addr} {sl24 : Array (Option Value)} {f24 : Addr} {oc24 kV24 dc24 pm24 cd24 ct24 : Value}
    (a24 : PySem.W.nsIn K mainGlobals "_law_kind" = some (some (.ref f24))) (l24 : K.lookup f24 = some ⟨oc24, od24, .func (PySem.W.fnOf "_law_kind" "_law_kind" (defArgs (top 40)) (defBody (top 40)) (defScope (top 40)) .none kV24 dc24 pm24 an24 cd24 ct24), sl24⟩) (c24 : PySem.W.codeIn K cd24 "_law_kind" = true) (k24 : PySem.W.keepIn K (.ref f24) = true)
    {od25 an25 : Option Addr} {sl25 : Array (Option Value)} {f25 : Addr} {oc25 kV25 dc25 pm25 cd25 ct25 : Value}
    (a25 : PySem.W.nsIn K mainGlobals "_law_choice" = some (some (.ref f25))) (l25 : K.lookup f25 = some ⟨oc25, od25, .func (PySem.W.fnOf "_law_choice" "_law_choice" (defArgs (top 41)) (defBody (top 41)) (defScope (top 41)) .none kV25 dc25 pm25 an25 cd25 ct25), sl25⟩) (c25 : PySem.W.codeIn K cd25 "_law_choice" = true) (k25 : PySem.W.keepIn K (.ref f25) = true)
    {od26 an26 : Option Addr} {sl26 : Array (Option Value)} {f26 : Addr} {oc26 kV26 dc26 pm26 cd26 ct26 : Value}
    (a26 : PySem.W.nsIn K mainGlobals "_law_signs" = some (some (.ref f26))) (l26 : K.lookup f26 = some ⟨oc26, od26, .func (PySem.W.fnOf "_law_signs" "_law_signs" (defArgs (top 42)) (defBody (top 42)) (defScope (top 42)) .none kV26 dc26 pm26 an26 cd26 ct26), sl26⟩) (c26 : PySem.W.codeIn K cd26 "_law_signs" = true) (k26 : PySem.W.keepIn K (.ref f26) = true)
    {od27 an27 : Option Addr} {sl27 : Array (Option Value)} {f27 : Addr} {oc27 kV27 dc27 pm27 cd27 ct27 : Value}
    (a27 : PySem.W.nsIn K mainGlobals "_law_leaf" = some (some (.ref f27))) (l27 : K.lookup f27 = some ⟨oc27, od27, .func (PySem.W.fnOf "_law_leaf" "_law_leaf" (defArgs (top 43)) (defBody (top 43)) (defScope (top 43)) .none kV27 dc27 pm27 an27 cd27 ct27), sl27⟩) (c27 : PySem.W.codeIn K cd27 "_law_leaf" = true) (k27 : PySem.W.keepIn K (.ref f27) = true)
    {od28 an28 : Option Addr} {sl28 : Array (Option Value)} {f28 : Addr} {oc28 kV28 dc28 pm28 cd28 ct28 : Value}
    (a28 : PySem.W.nsIn K mainGlobals "_law_rowed" = some (some (.ref f28))) (l28 : K.lookup f28 = some ⟨oc28, od28, .func (PySem.W.fnOf "_law_rowed" "_law_rowed" (defArgs (top 44)) (defBody (top 44)) (defScope (top 44)) .none kV28 dc28 pm28 an28 cd28 ct28), sl28⟩) (c28 : PySem.W.codeIn K cd28 "_law_rowed" = true) (k28 : PySem.W.keepIn K (.ref f28) = true)
    {od29 an29 : Option Addr} {sl29 : Array (Option Value)} {f29 : Addr} {oc29 kV29 dc29 pm29 cd29 ct29 : Value}
    (a29 : PySem.W.nsIn K mainGlobals "_law_question" = some (some (.ref f29))) (l29 : K.lookup f29 = some ⟨oc29, od29, .func (PySem.W.fnOf "_law_question" "_law_question" (defArgs (top 45)) (defBody (top 45)) (defScope (top 45)) .none kV29 dc29 pm29 an29 cd29 ct29), sl29⟩) (c29 : PySem.W.codeIn K cd29 "_law_question" = true) (k29 : PySem.W.keepIn K (.ref f29) = true)
    {od30 an30 : Option Addr} {sl30 : Array (Option Value)} {f30 : Addr} {oc30 kV30 dc30 pm30 cd30 ct30 : Value}
    (a30 : PySem.W.nsIn K mainGlobals "_law_parts" = some (some (.ref f30))) (l30 : K.lookup f30 = some ⟨oc30, od30, .func (PySem.W.fnOf "_law_parts" "_law_parts" (defArgs (top 46)) (defBody (top 46)) (defScope (top 46)) .none kV30 dc30 pm30 an30 cd30 ct30), sl30⟩) (c30 : PySem.W.codeIn K cd30 "_law_parts" = true) (k30 : PySem.W.keepIn K (.ref f30) = true)
    {od31 an31 : Option Addr} {sl31 : Array (Option Value)} {f31 : Addr} {oc31 kV31 dc31 pm31 cd31 ct31 : Value}
    (a31 : PySem.W.nsIn K mainGlobals "_law_places" = some (some (.ref f31))) (l31 : K.lookup f31 = some ⟨oc31, od31, .func (PySem.W.fnOf "_law_places" "_law_places" (defArgs (top 47)) (defBody (top 47)) (defScope (top 47)) .none kV31 dc31 pm31 an31 cd31 ct31), sl31⟩) (c31 : PySem.W.codeIn K cd31 "_law_places" = true) (k31 : PySem.W.keepIn K (.ref f31) = true)
    {od32 an32 : Option Addr} {sl32 : Array (Option Value)} {f32 : Addr} {oc32 kV32 dc32 pm32 cd32 ct32 : Value}
    (a32 : PySem.W.nsIn K mainGlobals "_law_with" = some (some (.ref f32))) (l32 : K.lookup f32 = some ⟨oc32, od32, .func (PySem.W.fnOf "_law_with" "_law_with" (defArgs (top 48)) (defBody (top 48)) (defScope (top 48)) .none kV32 dc32 pm32 an32 cd32 ct32), sl32⟩) (c32 : PySem.W.codeIn K cd32 "_law_with" = true) (k32 : PySem.W.keepIn K (.ref f32) = true)
    {od33 an33 : Option Addr} {sl33 : Array (Option Value)} {f33 : Addr} {oc33 kV33 dc33 pm33 cd33 ct33 : Value}
    (a33 : PySem.W.nsIn K mainGlobals "_law_odd_things" = some (some (.ref f33))) (l33 : K.lookup f33 = some ⟨oc33, od33, .func (PySem.W.fnOf "_law_odd_things" "_law_odd_things" (defArgs (top 49)) (defBody (top 49)) (defScope (top 49)) .none kV33 dc33 pm33 an33 cd33 ct33), sl33⟩) (c33 : PySem.W.codeIn K cd33 "_law_odd_things" = true) (k33 : PySem.W.keepIn K (.ref f33) = true)
    {od34 an34 : Option Addr} {sl34 : Array (Option Value)} {f34 : Addr} {oc34 kV34 dc34 pm34 cd34 ct34 : Value}
    (a34 : PySem.W.nsIn K mainGlobals "_law_right" = some (some (.ref f34))) (l34 : K.lookup f34 = some ⟨oc34, od34, .func (PySem.W.fnOf "_law_right" "_law_right" (defArgs (top 50)) (defBody (top 50)) (defScope (top 50)) .none kV34 dc34 pm34 an34 cd34 ct34), sl34⟩) (c34 : PySem.W.codeIn K cd34 "_law_right" = true) (k34 : PySem.W.keepIn K (.ref f34) = true)
    {od35 an35 : Option Addr} {sl35 : Array (Option Value)} {f35 : Addr} {oc35 kV35 dc35 pm35 cd35 ct35 : Value}
    (a35 : PySem.W.nsIn K mainGlobals "law" = some (some (.ref f35))) (l35 : K.lookup f35 = some ⟨oc35, od35, .func (PySem.W.fnOf "law" "law" (defArgs (top 51)) (defBody (top 51)) (defScope (top 51)) .none kV35 dc35 pm35 an35 cd35 ct35), sl35⟩) (c35 : PySem.W.codeIn K cd35 "law" = true) (k35 : PySem.W.keepIn K (.ref f35) = true)
    (z0 : PySem.W.nsIn K mainGlobals "all" = some none)
    (z1 : PySem.W.nsIn K mainGlobals "len" = some none)
    (z2 : PySem.W.nsIn K mainGlobals "isinstance" = some none)
    (z3 : PySem.W.nsIn K mainGlobals "str" = some none)
    (z4 : PySem.W.nsIn K mainGlobals "tuple" = some none)
    (z5 : PySem.W.nsIn K mainGlobals "zip" = some none)
    (z6 : PySem.W.nsIn K mainGlobals "bool" = some none)
    (z7 : PySem.W.nsIn K mainGlobals "int" = some none)
    (z8 : PySem.W.nsIn K mainGlobals "enumerate" = some none)
    (z9 : PySem.W.nsIn K mainGlobals "list" = some none)
    (z10 : PySem.W.nsIn K mainGlobals "range" = some none)
    (z11 : PySem.W.nsIn K mainGlobals "sorted" = some none)
    {ca0 : Addr} {cod0 : Option Addr} {csl0 : Array (Option Value)} {cn0 : Nat} {t0_0 t0_1 t0_2 : Tok}
    (g0 : PySem.W.nsIn K mainGlobals "SIMPLE" = some (some (.ref ca0))) (h0 : K.lookup ca0 = some ⟨.type "tuple", cod0, .seq #[.str "number" t0_0, .str "text" t0_1, .str "truth" t0_2] cn0, csl0⟩)
    {t1 : Tok} (g1 : PySem.W.nsIn K mainGlobals "LETTERS_kinds" = some (some (.str "abcdefghijklmnopqrstuvwxyz" t1)))
    {t2 : Tok} (g2 : PySem.W.nsIn K mainGlobals "LONGEST_kinds" = some (some (.int 8 t2)))
    {t3 : Tok} (g3 : PySem.W.nsIn K mainGlobals "SIGNS" = some (some (.str "\x20!\"#$&'()*+,-./0123456789:;<=>?@ABCDEFGHIJKLMNOPQRSTUVWXYZ[\\]^_`abcdefghijklmnopqrstuvwxyz{|}~" t3)))
    {t4 : Tok} (g4 : PySem.W.nsIn K mainGlobals "LETTERS_questions" = some (some (.str "abcdefghijklmnopqrstuvwxyz" t4)))
    {t5 : Tok} (g5 : PySem.W.nsIn K mainGlobals "LONGEST_questions" = some (some (.int 8 t5)))
    {ca6 : Addr} {cod6 : Option Addr} {csl6 : Array (Option Value)} {cn6 : Nat} {t6_0 t6_1 t6_2 : Tok}
    (g6 : PySem.W.nsIn K mainGlobals "VALUES" = some (some (.ref ca6))) (h6 : K.lookup ca6 = some ⟨.type "tuple", cod6, .seq #[.str "number" t6_0, .str "text" t6_1, .str "truth" t6_2] cn6, csl6⟩)
    {ca7 : Addr} {cod7 : Option Addr} {csl7 : Array (Option Value)} {cn7 : Nat} {t7_0 t7_1 t7_2 t7_3 t7_4 : Tok}
    (g7 : PySem.W.nsIn K mainGlobals "LEAVES" = some (some (.ref ca7))) (h7 : K.lookup ca7 = some ⟨.type "tuple", cod7, .seq #[.str "number" t7_0, .str "text" t7_1, .str "truth" t7_2, .str "name" t7_3, .str "empty" t7_4] cn7, csl7⟩)
    {ca8 : Addr} {cod8 : Option Addr} {csl8 : Array (Option Value)} {cn8 : Nat} {t8_0 t8_1 t8_2 : Tok}
    (g8 : PySem.W.nsIn K mainGlobals "BINDING" = some (some (.ref ca8))) (h8 : K.lookup ca8 = some ⟨.type "tuple", cod8, .seq #[.str "let" t8_0, .str "for" t8_1, .str "sum" t8_2] cn8, csl8⟩)
    {kD0 : Addr} {kE0 : Array DictEntry} {kN0 : Nat} {kT0_0 : Tok} {kT0_1 : Tok} {kT0_2 : Tok} {kT0_3 : Tok} {kT0_4 : Tok} {kT0_5 : Tok} {kT0_6 : Tok} {kT0_7 : Tok} {kT0_8 : Tok} {kT0_9 : Tok}
    (ka0 : PySem.W.nsIn K mainGlobals "PLAIN" = some (some (.ref kD0)))
    (kl0 : K.lookup kD0 = some ⟨.type "dict", none, .dict kE0 kN0, #[]⟩)
    (kq0 : PySem.W.KeysLit w.params kE0.toList)
    (ko0 : (kD0 == sysModules) = false)
    (kk0 : kE0.toList.map keyStr = ((["if", "one", "plus", "unlike", "add", "times", "alike", "below", "not", "both"] : List Str).map some))
    (kv0_0 : PySem.W.nsIn K kD0 "if" = some (some (.int 3 kT0_0)))
    (kv0_1 : PySem.W.nsIn K kD0 "one" = some (some (.int 1 kT0_1)))
    (kv0_2 : PySem.W.nsIn K kD0 "plus" = some (some (.int 2 kT0_2)))
    (kv0_3 : PySem.W.nsIn K kD0 "unlike" = some (some (.int 1 kT0_3)))
    (kv0_4 : PySem.W.nsIn K kD0 "add" = some (some (.int 2 kT0_4)))
    (kv0_5 : PySem.W.nsIn K kD0 "times" = some (some (.int 2 kT0_5)))
    (kv0_6 : PySem.W.nsIn K kD0 "alike" = some (some (.int 2 kT0_6)))
    (kv0_7 : PySem.W.nsIn K kD0 "below" = some (some (.int 2 kT0_7)))
    (kv0_8 : PySem.W.nsIn K kD0 "not" = some (some (.int 1 kT0_8)))
    (kv0_9 : PySem.W.nsIn K kD0 "both" = some (some (.int 2 kT0_9))) : Facts K w mg tab where
  fns := List.forall_mem_cons.mpr ⟨fn_top X G (by decide +kernel) a0 l0 c0 k0 s_p_is_name a_p_is_name k_p_is_name, List.forall_mem_cons.mpr ⟨fn_top X G (by decide +kernel) a1 l1 c1 k1 s_p_is_row a_p_is_row k_p_is_row, List.forall_mem_cons.mpr ⟨fn_top X G (by decide +kernel) a2 l2 c2 k2 s_p_are_rows_kinds a_p_are_rows_kinds k_p_are_rows_kinds, List.forall_mem_cons.mpr ⟨fn_top X G (by decide +kernel) a3 l3 c3 k3 s_p_is_kind a_p_is_kind k_p_is_kind, List.forall_mem_cons.mpr ⟨fn_top X G (by decide +kernel) a4 l4 c4 k4 s_p_is_flat a_p_is_flat k_p_is_flat, List.forall_mem_cons.mpr ⟨fn_top X G (by decide +kernel) a5 l5 c5 k5 s_p_row_kind a_p_row_kind k_p_row_kind, List.forall_mem_cons.mpr ⟨fn_top X G (by decide +kernel) a6 l6 c6 k6 s_p_is_whole a_p_is_whole k_p_is_whole, List.forall_mem_cons.mpr ⟨fn_top X G (by decide +kernel) a7 l7 c7 k7 s_p_is_text a_p_is_text k_p_is_text, List.forall_mem_cons.mpr ⟨fn_top X G (by decide +kernel) a8 l8 c8 k8 s_p_is_record a_p_is_record k_p_is_record, List.forall_mem_cons.mpr ⟨fn_top X G (by decide +kernel) a9 l9 c9 k9 s_p_is_choice a_p_is_choice k_p_is_choice, List.forall_mem_cons.mpr ⟨fn_top X G (by decide +kernel) a10 l10 c10 k10 s_p_is_counted a_p_is_counted k_p_is_counted, List.forall_mem_cons.mpr ⟨fn_top X G (by decide +kernel) a11 l11 c11 k11 s_p_is_paper a_p_is_paper k_p_is_paper, List.forall_mem_cons.mpr ⟨fn_top X G (by decide +kernel) a12 l12 c12 k12 s_p_is_value a_p_is_value k_p_is_value, List.forall_mem_cons.mpr ⟨fn_top X G (by decide +kernel) a13 l13 c13 k13 s_p_is_word a_p_is_word k_p_is_word, List.forall_mem_cons.mpr ⟨fn_top X G (by decide +kernel) a14 l14 c14 k14 s_p_are_rows_questions a_p_are_rows_questions k_p_are_rows_questions, List.forall_mem_cons.mpr ⟨fn_top X G (by decide +kernel) a15 l15 c15 k15 s_p_is_rowed a_p_is_rowed k_p_is_rowed, List.forall_mem_cons.mpr ⟨fn_top X G (by decide +kernel) a16 l16 c16 k16 s_p_is_made a_p_is_made k_p_is_made, List.forall_mem_cons.mpr ⟨fn_top X G (by decide +kernel) a17 l17 c17 k17 s_p_is_question a_p_is_question k_p_is_question, List.forall_mem_cons.mpr ⟨fn_top X G (by decide +kernel) a18 l18 c18 k18 s_p_parts a_p_parts k_p_parts, List.forall_mem_cons.mpr ⟨fn_top X G (by decide +kernel) a19 l19 c19 k19 s_cell a_cell k_cell, List.forall_mem_cons.mpr ⟨fn_top X G (by decide +kernel) a20 l20 c20 k20 s_pot a_pot k_pot, List.forall_mem_cons.mpr ⟨fn_top X G (by decide +kernel) a21 l21 c21 k21 s_digit a_digit k_digit, List.forall_mem_cons.mpr ⟨fn_top X G (by decide +kernel) a22 l22 c22 k22 s_name a_name k_name, List.forall_mem_cons.mpr ⟨fn_top X G (by decide +kernel) a23 l23 c23 k23 s_names a_names k_names, List.forall_mem_cons.mpr ⟨fn_top X G (by decide +kernel) a24 l24 c24 k24 s_kind a_kind k_kind, List.forall_mem_cons.mpr ⟨fn_top X G (by decide +kernel) a25 l25 c25 k25 s_choice a_choice k_choice, List.forall_mem_cons.mpr ⟨fn_top X G (by decide +kernel) a26 l26 c26 k26 s_signs a_signs k_signs, List.forall_mem_cons.mpr ⟨fn_top X G (by decide +kernel) a27 l27 c27 k27 s_leaf a_leaf k_leaf, List.forall_mem_cons.mpr ⟨fn_top X G (by decide +kernel) a28 l28 c28 k28 s_rowed a_rowed k_rowed, List.forall_mem_cons.mpr ⟨fn_top X G (by decide +kernel) a29 l29 c29 k29 s_question a_question k_question, List.forall_mem_cons.mpr ⟨fn_top X G (by decide +kernel) a30 l30 c30 k30 s_parts a_parts k_parts, List.forall_mem_cons.mpr ⟨fn_top X G (by decide +kernel) a31 l31 c31 k31 s_places a_places k_places, List.forall_mem_cons.mpr ⟨fn_top X G (by decide +kernel) a32 l32 c32 k32 s_with a_with k_with, List.forall_mem_cons.mpr ⟨fn_top X G (by decide +kernel) a33 l33 c33 k33 s_odd_things a_odd_things k_odd_things, List.forall_mem_cons.mpr ⟨fn_top X G (by decide +kernel) a34 l34 c34 k34 s_right a_right k_right, List.forall_mem_cons.mpr ⟨fn_top X G (by decide +kernel) a35 l35 c35 k35 s_p_law a_p_law k_p_law, (fun _ hz => nomatch hz)⟩⟩⟩⟩⟩⟩⟩⟩⟩⟩⟩⟩⟩⟩⟩⟩⟩⟩⟩⟩⟩⟩⟩⟩⟩⟩⟩⟩⟩⟩⟩⟩⟩⟩⟩⟩
  blt := List.forall_mem_cons.mpr ⟨PySem.W.mg_none_of X G z0, List.forall_mem_cons.mpr ⟨PySem.W.mg_none_of X G z1, List.forall_mem_cons.mpr ⟨PySem.W.mg_none_of X G z2, List.forall_mem_cons.mpr ⟨PySem.W.mg_none_of X G z3, List.forall_mem_cons.mpr ⟨PySem.W.mg_none_of X G z4, List.forall_mem_cons.mpr ⟨PySem.W.mg_none_of X G z5, List.forall_mem_cons.mpr ⟨PySem.W.mg_none_of X G z6, List.forall_mem_cons.mpr ⟨PySem.W.mg_none_of X G z7, List.forall_mem_cons.mpr ⟨PySem.W.mg_none_of X G z8, List.forall_mem_cons.mpr ⟨PySem.W.mg_none_of X G z9, List.forall_mem_cons.mpr ⟨PySem.W.mg_none_of X G z10, List.forall_mem_cons.mpr ⟨PySem.W.mg_none_of X G z11, (fun _ hz => nomatch hz)⟩⟩⟩⟩⟩⟩⟩⟩⟩⟩⟩⟩
  con := List.forall_mem_cons.mpr ⟨con_strs X G g0 h0 rfl rfl (by rw [sizeLine_eq]; show (3 : Nat) ≤ 16777216; decide) (.cons ⟨_, rfl⟩ (.cons ⟨_, rfl⟩ (.cons ⟨_, rfl⟩ (.nil)))), List.forall_mem_cons.mpr ⟨con_str X G g1, List.forall_mem_cons.mpr ⟨con_int X G g2, List.forall_mem_cons.mpr ⟨con_str X G g3, List.forall_mem_cons.mpr ⟨con_str X G g4, List.forall_mem_cons.mpr ⟨con_int X G g5, List.forall_mem_cons.mpr ⟨con_strs X G g6 h6 rfl rfl (by rw [sizeLine_eq]; show (3 : Nat) ≤ 16777216; decide) (.cons ⟨_, rfl⟩ (.cons ⟨_, rfl⟩ (.cons ⟨_, rfl⟩ (.nil)))), List.forall_mem_cons.mpr ⟨con_strs X G g7 h7 rfl rfl (by rw [sizeLine_eq]; show (5 : Nat) ≤ 16777216; decide) (.cons ⟨_, rfl⟩ (.cons ⟨_, rfl⟩ (.cons ⟨_, rfl⟩ (.cons ⟨_, rfl⟩ (.cons ⟨_, rfl⟩ (.nil)))))), List.forall_mem_cons.mpr ⟨con_strs X G g8 h8 rfl rfl (by rw [sizeLine_eq]; show (3 : Nat) ≤ 16777216; decide) (.cons ⟨_, rfl⟩ (.cons ⟨_, rfl⟩ (.cons ⟨_, rfl⟩ (.nil)))), (fun _ hz => nomatch hz)⟩⟩⟩⟩⟩⟩⟩⟩⟩
  exc := (fun _ hz => nomatch hz)
  exm := (fun _ hz => nomatch hz)
  isx := (fun _ hz => nomatch hz)
  kds := List.forall_mem_cons.mpr ⟨kd_mk X G ka0 kl0 kq0 ko0 kk0 (List.forall_mem_cons.mpr ⟨⟨_, kv0_0⟩, List.forall_mem_cons.mpr ⟨⟨_, kv0_1⟩, List.forall_mem_cons.mpr ⟨⟨_, kv0_2⟩, List.forall_mem_cons.mpr ⟨⟨_, kv0_3⟩, List.forall_mem_cons.mpr ⟨⟨_, kv0_4⟩, List.forall_mem_cons.mpr ⟨⟨_, kv0_5⟩, List.forall_mem_cons.mpr ⟨⟨_, kv0_6⟩, List.forall_mem_cons.mpr ⟨⟨_, kv0_7⟩, List.forall_mem_cons.mpr ⟨⟨_, kv0_8⟩, List.forall_mem_cons.mpr ⟨⟨_, kv0_9⟩, (fun _ hz => nomatch hz)⟩⟩⟩⟩⟩⟩⟩⟩⟩⟩), (fun _ hz => nomatch hz)⟩
end Nv.K21

set_option Elab.async false
set_option maxRecDepth 100000
set_option autoImplicit false
set_option linter.all false
set_option maxHeartbeats 4000000
/-! K21Odd: the things that are no questions -/
namespace Nv.K21
open PySem PySem.Spec PyProof.Rows L2 S2
def odd0 (x : D) : List D := [.non, .int 3, .bl true, .str "x", .str "", .tup [], .lf [], .ld [] [], .tup [.str "x"], .tup [.str "name"], .tup [.str "name", .str "Abc"], .tup [.str "name", .str ""]]
def odd1 (x : D) : List D := [.tup [.str "name", .str "abcdefghi"], .tup [.str "name", .int 3], .tup [.str "name", .str "a\x20b"], .tup [.str "name", .str "x", x], .lf [.str "name", .str "x"]]
def odd2 (x : D) : List D := [.tup [.str "number", .bl true], .tup [.str "number", .str "3"], .tup [.str "number"], .tup [.str "number", .int 1, .int 2], .tup [.str "text", .int 3]]
def odd3 (x : D) : List D := [.tup [.str "text", .int 7], .tup [.str "text", .tup [.str "a"]], .tup [.str "truth", .int 1], .tup [.str "truth", .int 0], .tup [.str "truth", .str "yes"]]
def odd4 (x : D) : List D := [.tup [.str "empty", .str "number"], .tup [.str "empty", .tup [.str "bag"]], .tup [.str "empty"], .tup [.str "empty", .non]]
def odd5 (x : D) : List D := [.tup [.str "record", .lf [.tup [.str "a", x]]], .tup [.str "record", .tup [.lf [.str "a", x]]], .tup [.str "record", .tup [.tup [.str "a"]]]]
def odd6 (x : D) : List D := [.tup [.str "record", .tup [.tup [.str "A", x]]], .tup [.str "record", .tup [.tup [.str "b", x], .tup [.str "a", x]]]]
def odd7 (x : D) : List D := [.tup [.str "record", .tup [.tup [.str "a", x], .tup [.str "a", x]]], .tup [.str "record", .tup [], x], .tup [.str "record"], .tup [.str "field", x]]
def odd8 (x : D) : List D := [.tup [.str "field", x, .str "A"], .tup [.str "field", x, .str "a", .str "b"], .tup [.str "field", .str "a", x], .tup [.str "case", x, .int 3]]
def odd9 (x : D) : List D := [.tup [.str "case", x], .tup [.str "tag", .tup [.str "number"], .str "a", x], .tup [.str "tag", .tup [.str "choice", .tup []], .str "a", x]]
def odd10 (x : D) : List D := [.tup [.str "tag", .str "choice", .str "a", x], .tup [.str "tag", .tup [.str "choice", .tup [.tup [.str "a", .tup [.str "number"]]]], .int 3, x]]
def odd11 (x : D) : List D := [.tup [.str "tag", .tup [.str "choice", .tup [.tup [.str "a", .tup [.str "number"]]]], .str "a"]]
def odd12 (x : D) : List D := [.tup [.str "tag", .tup [.str "choice", .tup [.tup [.str "a", .tup [.str "bag", .tup [.str "number"]]]]], .str "a", x], .tup [.str "match", x, .tup []]]
def odd13 (x : D) : List D := [.tup [.str "match", x], .tup [.str "match", x, .tup [.tup [.str "a", .str "X", x]]], .tup [.str "match", x, .tup [.tup [.str "a", .str "x"]]]]
def odd14 (x : D) : List D := [.tup [.str "match", x, .lf [.tup [.str "a", .str "x", x]]], .tup [.str "match", x, .tup [.tup [.str "b", .str "x", x], .tup [.str "a", .str "x", x]]]]
def odd15 (x : D) : List D := [.tup [.str "match", x, .tup [.tup [.str "a", .str "x", x], .tup [.str "a", .str "y", x]]], .tup [.str "if", x, x], .tup [.str "if", x, x, x, x]]
def odd16 (x : D) : List D := [.tup [.str "let", .str "x", x], .tup [.str "let", .str "X", x, x], .tup [.str "for", .int 3, x, x], .tup [.str "for", x, x, x]]
def odd17 (x : D) : List D := [.tup [.str "sum", .str "x", x, x, x], .tup [.str "one"], .tup [.str "one", x, x], .lf [.str "one", x], .tup [.str "plus", x], .tup [.str "not", .int 3]]
def odd18 (x : D) : List D := [.tup [.str "both", x, x, x], .tup [.str "both", x], .tup [.str "open", x], .tup [.str "One", x], .tup [.str "maybe", x]]
def odd19 (x : D) : List D := [.tup [.str "group", .str "x", x, x], .tup [x, x]]
def odd20 (x : D) : List D := [.tup [.lf [], x], .tup [.ld [] [], .str "x"], .tup [.str "name", .lf []], .tup [.str "number", .ld [] []], .tup [.str "truth", .lf []], .tup [.str "empty", .lf []]]
def odd21 (x : D) : List D := [.tup [.str "record", .ld [] []], .tup [.str "field", x, .lf []], .tup [.str "case", x, .ld [] []], .tup [.str "for", .lf [], x, x], .tup [.str "let", .ld [] [], x, x]]
def odd22 (x : D) : List D := [.tup [.lf [.str "one"], x], .tup [.str "empty", .tup [.ld [] []]], .tup [.str "record", .tup [.tup [.lf [], x]]], .tup [.str "match", x, .tup [.tup [.str "a", .ld [] [], x]]]]
def odd23 (x : D) : List D := [.tup [.str "tag", .lf [], .str "a", x], .tup [.str "match", x, .ld [] []], .tup [.str "match", x, .tup [.lf [], x]], .tup [.str "match", .lf [], .tup [.tup [.str "a", .str "x", x]]]]
def oddL (x : D) : List D := (((((((((((((((((((((((odd0 x ++ odd1 x) ++ odd2 x) ++ odd3 x) ++ odd4 x) ++ odd5 x) ++ odd6 x) ++ odd7 x) ++ odd8 x) ++ odd9 x) ++ odd10 x) ++ odd11 x) ++ odd12 x) ++ odd13 x) ++ odd14 x) ++ odd15 x) ++ odd16 x) ++ odd17 x) ++ odd18 x) ++ odd19 x) ++ odd20 x) ++ odd21 x) ++ odd22 x) ++ odd23 x)

/-- no question, and may be asked -/
def Bad (a : Nat) (y : D) : Prop := (∀ n, questB n y = false) ∧ okD y = true ∧ dpt y ≤ a + 4
theorem okc {x : D} {r : List D} (h : okD x = true) (h2 : okDs r = true) : okDs (x :: r) = true := by unfold okDs; rw [h, h2]; rfl
theorem okt {xs : List D} (h : okDs xs = true) (hl : xs.length ≤ 1000 := by simp) : okD (.tup xs) = true := by unfold okD; rw [h, decide_eq_true hl]; rfl
theorem okl {xs : List D} (h : okDs xs = true) (hl : xs.length ≤ 1000 := by simp) : okD (.lf xs) = true := by unfold okD; rw [h, decide_eq_true hl]; rfl
section
variable {x : D} {a : Nat} {w : Str} {r : List D}
theorem bad0 (hx : x = .tup (.str w :: r)) (ox : okD x = true) (dx : dpt x ≤ a) (ha : 8 ≤ a) : ∀ y ∈ odd0 x, Bad a y := by
  unfold odd0
  repeat' (first | (exact fun y hy => absurd hy List.not_mem_nil) | (refine List.forall_mem_cons.mpr ⟨?_, ?_⟩))
  all_goals refine ⟨?_, ?_, ?_⟩
  any_goals (intro n; subst hx; rcases n with _ | _ | _ | _ | n <;> rfl)
  any_goals (repeat' (first | exact ox | refine okt ?_ | refine okl ?_ | refine okc ?_ ?_ | exact rfl | decide +kernel))
  all_goals (simp [dpt, dpts]; try omega)
theorem bad1 (hx : x = .tup (.str w :: r)) (ox : okD x = true) (dx : dpt x ≤ a) (ha : 8 ≤ a) : ∀ y ∈ odd1 x, Bad a y := by
  unfold odd1
  repeat' (first | (exact fun y hy => absurd hy List.not_mem_nil) | (refine List.forall_mem_cons.mpr ⟨?_, ?_⟩))
  all_goals refine ⟨?_, ?_, ?_⟩
  any_goals (intro n; subst hx; rcases n with _ | _ | _ | _ | n <;> rfl)
  any_goals (repeat' (first | exact ox | refine okt ?_ | refine okl ?_ | refine okc ?_ ?_ | exact rfl | decide +kernel))
  all_goals (simp [dpt, dpts]; try omega)
theorem bad2 (hx : x = .tup (.str w :: r)) (ox : okD x = true) (dx : dpt x ≤ a) (ha : 8 ≤ a) : ∀ y ∈ odd2 x, Bad a y := by
  unfold odd2
  repeat' (first | (exact fun y hy => absurd hy List.not_mem_nil) | (refine List.forall_mem_cons.mpr ⟨?_, ?_⟩))
  all_goals refine ⟨?_, ?_, ?_⟩
  any_goals (intro n; subst hx; rcases n with _ | _ | _ | _ | n <;> rfl)
  any_goals (repeat' (first | exact ox | refine okt ?_ | refine okl ?_ | refine okc ?_ ?_ | exact rfl | decide +kernel))
  all_goals (simp [dpt, dpts]; try omega)
theorem bad3 (hx : x = .tup (.str w :: r)) (ox : okD x = true) (dx : dpt x ≤ a) (ha : 8 ≤ a) : ∀ y ∈ odd3 x, Bad a y := by
  unfold odd3
  repeat' (first | (exact fun y hy => absurd hy List.not_mem_nil) | (refine List.forall_mem_cons.mpr ⟨?_, ?_⟩))
  all_goals refine ⟨?_, ?_, ?_⟩
  any_goals (intro n; subst hx; rcases n with _ | _ | _ | _ | n <;> rfl)
  any_goals (repeat' (first | exact ox | refine okt ?_ | refine okl ?_ | refine okc ?_ ?_ | exact rfl | decide +kernel))
  all_goals (simp [dpt, dpts]; try omega)
theorem bad4 (hx : x = .tup (.str w :: r)) (ox : okD x = true) (dx : dpt x ≤ a) (ha : 8 ≤ a) : ∀ y ∈ odd4 x, Bad a y := by
  unfold odd4
  repeat' (first | (exact fun y hy => absurd hy List.not_mem_nil) | (refine List.forall_mem_cons.mpr ⟨?_, ?_⟩))
  all_goals refine ⟨?_, ?_, ?_⟩
  any_goals (intro n; subst hx; rcases n with _ | _ | _ | _ | n <;> rfl)
  any_goals (repeat' (first | exact ox | refine okt ?_ | refine okl ?_ | refine okc ?_ ?_ | exact rfl | decide +kernel))
  all_goals (simp [dpt, dpts]; try omega)
theorem bad5 (hx : x = .tup (.str w :: r)) (ox : okD x = true) (dx : dpt x ≤ a) (ha : 8 ≤ a) : ∀ y ∈ odd5 x, Bad a y := by
  unfold odd5
  repeat' (first | (exact fun y hy => absurd hy List.not_mem_nil) | (refine List.forall_mem_cons.mpr ⟨?_, ?_⟩))
  all_goals refine ⟨?_, ?_, ?_⟩
  any_goals (intro n; subst hx; rcases n with _ | _ | _ | _ | n <;> rfl)
  any_goals (repeat' (first | exact ox | refine okt ?_ | refine okl ?_ | refine okc ?_ ?_ | exact rfl | decide +kernel))
  all_goals (simp [dpt, dpts]; try omega)
theorem bad6 (hx : x = .tup (.str w :: r)) (ox : okD x = true) (dx : dpt x ≤ a) (ha : 8 ≤ a) : ∀ y ∈ odd6 x, Bad a y := by
  unfold odd6
  repeat' (first | (exact fun y hy => absurd hy List.not_mem_nil) | (refine List.forall_mem_cons.mpr ⟨?_, ?_⟩))
  all_goals refine ⟨?_, ?_, ?_⟩
  any_goals (intro n; subst hx; rcases n with _ | _ | _ | _ | n <;> rfl)
  any_goals (repeat' (first | exact ox | refine okt ?_ | refine okl ?_ | refine okc ?_ ?_ | exact rfl | decide +kernel))
  all_goals (simp [dpt, dpts]; try omega)
theorem bad7 (hx : x = .tup (.str w :: r)) (ox : okD x = true) (dx : dpt x ≤ a) (ha : 8 ≤ a) : ∀ y ∈ odd7 x, Bad a y := by
  unfold odd7
  repeat' (first | (exact fun y hy => absurd hy List.not_mem_nil) | (refine List.forall_mem_cons.mpr ⟨?_, ?_⟩))
  all_goals refine ⟨?_, ?_, ?_⟩
  any_goals (intro n; subst hx; rcases n with _ | _ | _ | _ | n <;> rfl)
  any_goals (repeat' (first | exact ox | refine okt ?_ | refine okl ?_ | refine okc ?_ ?_ | exact rfl | decide +kernel))
  all_goals (simp [dpt, dpts]; try omega)
theorem bad8 (hx : x = .tup (.str w :: r)) (ox : okD x = true) (dx : dpt x ≤ a) (ha : 8 ≤ a) : ∀ y ∈ odd8 x, Bad a y := by
  unfold odd8
  repeat' (first | (exact fun y hy => absurd hy List.not_mem_nil) | (refine List.forall_mem_cons.mpr ⟨?_, ?_⟩))
  all_goals refine ⟨?_, ?_, ?_⟩
  any_goals (intro n; subst hx; rcases n with _ | _ | _ | _ | n <;> rfl)
  any_goals (repeat' (first | exact ox | refine okt ?_ | refine okl ?_ | refine okc ?_ ?_ | exact rfl | decide +kernel))
  all_goals (simp [dpt, dpts]; try omega)
theorem bad9 (hx : x = .tup (.str w :: r)) (ox : okD x = true) (dx : dpt x ≤ a) (ha : 8 ≤ a) : ∀ y ∈ odd9 x, Bad a y := by
  unfold odd9
  repeat' (first | (exact fun y hy => absurd hy List.not_mem_nil) | (refine List.forall_mem_cons.mpr ⟨?_, ?_⟩))
  all_goals refine ⟨?_, ?_, ?_⟩
  any_goals (intro n; subst hx; rcases n with _ | _ | _ | _ | n <;> rfl)
  any_goals (repeat' (first | exact ox | refine okt ?_ | refine okl ?_ | refine okc ?_ ?_ | exact rfl | decide +kernel))
  all_goals (simp [dpt, dpts]; try omega)
theorem bad10 (hx : x = .tup (.str w :: r)) (ox : okD x = true) (dx : dpt x ≤ a) (ha : 8 ≤ a) : ∀ y ∈ odd10 x, Bad a y := by
  unfold odd10
  repeat' (first | (exact fun y hy => absurd hy List.not_mem_nil) | (refine List.forall_mem_cons.mpr ⟨?_, ?_⟩))
  all_goals refine ⟨?_, ?_, ?_⟩
  any_goals (intro n; subst hx; rcases n with _ | _ | _ | _ | n <;> rfl)
  any_goals (repeat' (first | exact ox | refine okt ?_ | refine okl ?_ | refine okc ?_ ?_ | exact rfl | decide +kernel))
  all_goals (simp [dpt, dpts]; try omega)
theorem bad11 (hx : x = .tup (.str w :: r)) (ox : okD x = true) (dx : dpt x ≤ a) (ha : 8 ≤ a) : ∀ y ∈ odd11 x, Bad a y := by
  unfold odd11
  repeat' (first | (exact fun y hy => absurd hy List.not_mem_nil) | (refine List.forall_mem_cons.mpr ⟨?_, ?_⟩))
  all_goals refine ⟨?_, ?_, ?_⟩
  any_goals (intro n; subst hx; rcases n with _ | _ | _ | _ | n <;> rfl)
  any_goals (repeat' (first | exact ox | refine okt ?_ | refine okl ?_ | refine okc ?_ ?_ | exact rfl | decide +kernel))
  all_goals (simp [dpt, dpts]; try omega)
theorem bad12 (hx : x = .tup (.str w :: r)) (ox : okD x = true) (dx : dpt x ≤ a) (ha : 8 ≤ a) : ∀ y ∈ odd12 x, Bad a y := by
  unfold odd12
  repeat' (first | (exact fun y hy => absurd hy List.not_mem_nil) | (refine List.forall_mem_cons.mpr ⟨?_, ?_⟩))
  all_goals refine ⟨?_, ?_, ?_⟩
  any_goals (intro n; subst hx; rcases n with _ | _ | _ | _ | n <;> rfl)
  any_goals (repeat' (first | exact ox | refine okt ?_ | refine okl ?_ | refine okc ?_ ?_ | exact rfl | decide +kernel))
  all_goals (simp [dpt, dpts]; try omega)
theorem bad13 (hx : x = .tup (.str w :: r)) (ox : okD x = true) (dx : dpt x ≤ a) (ha : 8 ≤ a) : ∀ y ∈ odd13 x, Bad a y := by
  unfold odd13
  repeat' (first | (exact fun y hy => absurd hy List.not_mem_nil) | (refine List.forall_mem_cons.mpr ⟨?_, ?_⟩))
  all_goals refine ⟨?_, ?_, ?_⟩
  any_goals (intro n; subst hx; rcases n with _ | _ | _ | _ | n <;> rfl)
  any_goals (repeat' (first | exact ox | refine okt ?_ | refine okl ?_ | refine okc ?_ ?_ | exact rfl | decide +kernel))
  all_goals (simp [dpt, dpts]; try omega)
theorem bad14 (hx : x = .tup (.str w :: r)) (ox : okD x = true) (dx : dpt x ≤ a) (ha : 8 ≤ a) : ∀ y ∈ odd14 x, Bad a y := by
  unfold odd14
  repeat' (first | (exact fun y hy => absurd hy List.not_mem_nil) | (refine List.forall_mem_cons.mpr ⟨?_, ?_⟩))
  all_goals refine ⟨?_, ?_, ?_⟩
  any_goals (intro n; subst hx; rcases n with _ | _ | _ | _ | n <;> rfl)
  any_goals (repeat' (first | exact ox | refine okt ?_ | refine okl ?_ | refine okc ?_ ?_ | exact rfl | decide +kernel))
  all_goals (simp [dpt, dpts]; try omega)
theorem bad15 (hx : x = .tup (.str w :: r)) (ox : okD x = true) (dx : dpt x ≤ a) (ha : 8 ≤ a) : ∀ y ∈ odd15 x, Bad a y := by
  unfold odd15
  repeat' (first | (exact fun y hy => absurd hy List.not_mem_nil) | (refine List.forall_mem_cons.mpr ⟨?_, ?_⟩))
  all_goals refine ⟨?_, ?_, ?_⟩
  any_goals (intro n; subst hx; rcases n with _ | _ | _ | _ | n <;> rfl)
  any_goals (repeat' (first | exact ox | refine okt ?_ | refine okl ?_ | refine okc ?_ ?_ | exact rfl | decide +kernel))
  all_goals (simp [dpt, dpts]; try omega)
theorem bad16 (hx : x = .tup (.str w :: r)) (ox : okD x = true) (dx : dpt x ≤ a) (ha : 8 ≤ a) : ∀ y ∈ odd16 x, Bad a y := by
  unfold odd16
  repeat' (first | (exact fun y hy => absurd hy List.not_mem_nil) | (refine List.forall_mem_cons.mpr ⟨?_, ?_⟩))
  all_goals refine ⟨?_, ?_, ?_⟩
  any_goals (intro n; subst hx; rcases n with _ | _ | _ | _ | n <;> rfl)
  any_goals (repeat' (first | exact ox | refine okt ?_ | refine okl ?_ | refine okc ?_ ?_ | exact rfl | decide +kernel))
  all_goals (simp [dpt, dpts]; try omega)
theorem bad17 (hx : x = .tup (.str w :: r)) (ox : okD x = true) (dx : dpt x ≤ a) (ha : 8 ≤ a) : ∀ y ∈ odd17 x, Bad a y := by
  unfold odd17
  repeat' (first | (exact fun y hy => absurd hy List.not_mem_nil) | (refine List.forall_mem_cons.mpr ⟨?_, ?_⟩))
  all_goals refine ⟨?_, ?_, ?_⟩
  any_goals (intro n; subst hx; rcases n with _ | _ | _ | _ | n <;> rfl)
  any_goals (repeat' (first | exact ox | refine okt ?_ | refine okl ?_ | refine okc ?_ ?_ | exact rfl | decide +kernel))
  all_goals (simp [dpt, dpts]; try omega)
theorem bad18 (hx : x = .tup (.str w :: r)) (ox : okD x = true) (dx : dpt x ≤ a) (ha : 8 ≤ a) : ∀ y ∈ odd18 x, Bad a y := by
  unfold odd18
  repeat' (first | (exact fun y hy => absurd hy List.not_mem_nil) | (refine List.forall_mem_cons.mpr ⟨?_, ?_⟩))
  all_goals refine ⟨?_, ?_, ?_⟩
  any_goals (intro n; subst hx; rcases n with _ | _ | _ | _ | n <;> rfl)
  any_goals (repeat' (first | exact ox | refine okt ?_ | refine okl ?_ | refine okc ?_ ?_ | exact rfl | decide +kernel))
  all_goals (simp [dpt, dpts]; try omega)
theorem bad19 (hx : x = .tup (.str w :: r)) (ox : okD x = true) (dx : dpt x ≤ a) (ha : 8 ≤ a) : ∀ y ∈ odd19 x, Bad a y := by
  unfold odd19
  repeat' (first | (exact fun y hy => absurd hy List.not_mem_nil) | (refine List.forall_mem_cons.mpr ⟨?_, ?_⟩))
  all_goals refine ⟨?_, ?_, ?_⟩
  any_goals (intro n; subst hx; rcases n with _ | _ | _ | _ | n <;> rfl)
  any_goals (repeat' (first | exact ox | refine okt ?_ | refine okl ?_ | refine okc ?_ ?_ | exact rfl | decide +kernel))
  all_goals (simp [dpt, dpts]; try omega)
theorem bad20 (hx : x = .tup (.str w :: r)) (ox : okD x = true) (dx : dpt x ≤ a) (ha : 8 ≤ a) : ∀ y ∈ odd20 x, Bad a y := by
  unfold odd20
  repeat' (first | (exact fun y hy => absurd hy List.not_mem_nil) | (refine List.forall_mem_cons.mpr ⟨?_, ?_⟩))
  all_goals refine ⟨?_, ?_, ?_⟩
  any_goals (intro n; subst hx; rcases n with _ | _ | _ | _ | n <;> rfl)
  any_goals (repeat' (first | exact ox | refine okt ?_ | refine okl ?_ | refine okc ?_ ?_ | exact rfl | decide +kernel))
  all_goals (simp [dpt, dpts]; try omega)
theorem bad21 (hx : x = .tup (.str w :: r)) (ox : okD x = true) (dx : dpt x ≤ a) (ha : 8 ≤ a) : ∀ y ∈ odd21 x, Bad a y := by
  unfold odd21
  repeat' (first | (exact fun y hy => absurd hy List.not_mem_nil) | (refine List.forall_mem_cons.mpr ⟨?_, ?_⟩))
  all_goals refine ⟨?_, ?_, ?_⟩
  any_goals (intro n; subst hx; rcases n with _ | _ | _ | _ | n <;> rfl)
  any_goals (repeat' (first | exact ox | refine okt ?_ | refine okl ?_ | refine okc ?_ ?_ | exact rfl | decide +kernel))
  all_goals (simp [dpt, dpts]; try omega)
theorem bad22 (hx : x = .tup (.str w :: r)) (ox : okD x = true) (dx : dpt x ≤ a) (ha : 8 ≤ a) : ∀ y ∈ odd22 x, Bad a y := by
  unfold odd22
  repeat' (first | (exact fun y hy => absurd hy List.not_mem_nil) | (refine List.forall_mem_cons.mpr ⟨?_, ?_⟩))
  all_goals refine ⟨?_, ?_, ?_⟩
  any_goals (intro n; subst hx; rcases n with _ | _ | _ | _ | n <;> rfl)
  any_goals (repeat' (first | exact ox | refine okt ?_ | refine okl ?_ | refine okc ?_ ?_ | exact rfl | decide +kernel))
  all_goals (simp [dpt, dpts]; try omega)
theorem bad23 (hx : x = .tup (.str w :: r)) (ox : okD x = true) (dx : dpt x ≤ a) (ha : 8 ≤ a) : ∀ y ∈ odd23 x, Bad a y := by
  unfold odd23
  repeat' (first | (exact fun y hy => absurd hy List.not_mem_nil) | (refine List.forall_mem_cons.mpr ⟨?_, ?_⟩))
  all_goals refine ⟨?_, ?_, ?_⟩
  any_goals (intro n; subst hx; rcases n with _ | _ | _ | _ | n <;> rfl)
  any_goals (repeat' (first | exact ox | refine okt ?_ | refine okl ?_ | refine okc ?_ ?_ | exact rfl | decide +kernel))
  all_goals (simp [dpt, dpts]; try omega)
theorem bad_all (hx : x = .tup (.str w :: r)) (ox : okD x = true) (dx : dpt x ≤ a) (ha : 8 ≤ a) : ∀ y ∈ oddL x, Bad a y := by
  intro y hy
  unfold oddL at hy
  simp only [List.mem_append] at hy
  rcases hy with ((((((((((((((((((((((hy | hy) | hy) | hy) | hy) | hy) | hy) | hy) | hy) | hy) | hy) | hy) | hy) | hy) | hy) | hy) | hy) | hy) | hy) | hy) | hy) | hy) | hy) | hy
  · exact bad0 hx ox dx ha y hy
  · exact bad1 hx ox dx ha y hy
  · exact bad2 hx ox dx ha y hy
  · exact bad3 hx ox dx ha y hy
  · exact bad4 hx ox dx ha y hy
  · exact bad5 hx ox dx ha y hy
  · exact bad6 hx ox dx ha y hy
  · exact bad7 hx ox dx ha y hy
  · exact bad8 hx ox dx ha y hy
  · exact bad9 hx ox dx ha y hy
  · exact bad10 hx ox dx ha y hy
  · exact bad11 hx ox dx ha y hy
  · exact bad12 hx ox dx ha y hy
  · exact bad13 hx ox dx ha y hy
  · exact bad14 hx ox dx ha y hy
  · exact bad15 hx ox dx ha y hy
  · exact bad16 hx ox dx ha y hy
  · exact bad17 hx ox dx ha y hy
  · exact bad18 hx ox dx ha y hy
  · exact bad19 hx ox dx ha y hy
  · exact bad20 hx ox dx ha y hy
  · exact bad21 hx ox dx ha y hy
  · exact bad22 hx ox dx ha y hy
  · exact bad23 hx ox dx ha y hy
end
end Nv.K21

set_option Elab.async false
set_option maxRecDepth 100000
set_option autoImplicit false
set_option linter.all false
set_option maxHeartbeats 4000000
/-! K21: the law -/
namespace Nv.K21
open PySem PySem.Spec PyProof.Rows L2 S2
theorem eP : EP tab c g := ⟨at_p_parts, gc_LEAVES, gc_BINDING⟩
theorem eN : EN tab c g := ⟨at_p_is_name, at_p_is_row, at_p_are_rows_kinds, at_p_is_kind, at_p_is_flat, gc_SIMPLE, gc_LETTERS_kinds, gc_LONGEST_kinds⟩
theorem eV : EV tab c g := { toEN := eN, toEP := eP, is_whole := at_p_is_whole, is_text := at_p_is_text, is_value := at_p_is_value, is_word := at_p_is_word, rowsq := at_p_are_rows_questions, is_rowed := at_p_is_rowed, is_made := at_p_is_made, is_question := at_p_is_question, signs := gc_SIGNS, lettersq := gc_LETTERS_questions, longestq := gc_LONGEST_questions, values := gc_VALUES }
theorem eG : EG tab c g := ⟨at_digit, at_name, at_names, at_kind, at_choice, at_signs, at_leaf, at_rowed, at_question, at_pot⟩
theorem odds_lt {n : Nat} {xs : List D} (h : ∀ y ∈ xs, okD y = true) : D.ltAll n xs = true := ltAll_mem fun x hx => okD_lt (h x hx)
theorem frz_m0 : frzR (.m []) = .d (.ld [] []) := rfl
theorem t_odd {m : Nat} {s : Sto} {x : D} (hm : 1 ≤ m) (hs : Clo s) (hl : D.ltAll s.length (oddL x) = true) : callN tab m (c "_law_odd_things") [x] s = .ok (.d (.lf (oddL x))) s := by
  obtain ⟨m, rfl⟩ : ∃ k, m = k + 1 := ⟨m - 1, by omega⟩
  have hf := fin_d (d := .lf (oddL x)) hs (show D.lt s.length (.lf (oddL x)) = true by unfold D.lt; exact hl)
  rw [call_at at_odd_things rfl]
  have e0 : ∀ (o : Option D) (K : List D → Sto → Res RD), evs (callN tab m) tab.gc (.cons .non (.cons (.int 3) (.cons (.bl true) (.cons (.str "x") (.cons (.str "") (.cons (.tup .nil) (.cons (.frz (.lst .nil)) (.cons (.frz .dnew) (.cons (.tup (.cons (.str "x") .nil)) (.cons (.tup (.cons (.str "name") .nil)) (.cons (.tup (.cons (.str "name") (.cons (.str "Abc") .nil))) (.cons (.tup (.cons (.str "name") (.cons (.str "") .nil))) .nil)))))))))))) [some x, o] s K = K (odd0 x) s := fun o K => by simp -implicitDefEqProofs [odd0, frz_m0]
  have l0 : (odd0 x).length = 12 := rfl
  have e1 : ∀ (o : Option D) (K : List D → Sto → Res RD), evs (callN tab m) tab.gc (.cons (.tup (.cons (.str "name") (.cons (.str "abcdefghi") .nil))) (.cons (.tup (.cons (.str "name") (.cons (.int 3) .nil))) (.cons (.tup (.cons (.str "name") (.cons (.str "a\x20b") .nil))) (.cons (.tup (.cons (.str "name") (.cons (.str "x") (.cons (.var 0) .nil)))) (.cons (.frz (.lst (.cons (.str "name") (.cons (.str "x") .nil)))) .nil))))) [some x, o] s K = K (odd1 x) s := fun o K => by simp -implicitDefEqProofs [odd1, frz_m0]
  have l1 : (odd1 x).length = 5 := rfl
  have e2 : ∀ (o : Option D) (K : List D → Sto → Res RD), evs (callN tab m) tab.gc (.cons (.tup (.cons (.str "number") (.cons (.bl true) .nil))) (.cons (.tup (.cons (.str "number") (.cons (.str "3") .nil))) (.cons (.tup (.cons (.str "number") .nil)) (.cons (.tup (.cons (.str "number") (.cons (.int 1) (.cons (.int 2) .nil)))) (.cons (.tup (.cons (.str "text") (.cons (.int 3) .nil))) .nil))))) [some x, o] s K = K (odd2 x) s := fun o K => by simp -implicitDefEqProofs [odd2, frz_m0]
  have l2 : (odd2 x).length = 5 := rfl
  have e3 : ∀ (o : Option D) (K : List D → Sto → Res RD), evs (callN tab m) tab.gc (.cons (.tup (.cons (.str "text") (.cons (.int 7) .nil))) (.cons (.tup (.cons (.str "text") (.cons (.tup (.cons (.str "a") .nil)) .nil))) (.cons (.tup (.cons (.str "truth") (.cons (.int 1) .nil))) (.cons (.tup (.cons (.str "truth") (.cons (.int 0) .nil))) (.cons (.tup (.cons (.str "truth") (.cons (.str "yes") .nil))) .nil))))) [some x, o] s K = K (odd3 x) s := fun o K => by simp -implicitDefEqProofs [odd3, frz_m0]
  have l3 : (odd3 x).length = 5 := rfl
  have e4 : ∀ (o : Option D) (K : List D → Sto → Res RD), evs (callN tab m) tab.gc (.cons (.tup (.cons (.str "empty") (.cons (.str "number") .nil))) (.cons (.tup (.cons (.str "empty") (.cons (.tup (.cons (.str "bag") .nil)) .nil))) (.cons (.tup (.cons (.str "empty") .nil)) (.cons (.tup (.cons (.str "empty") (.cons .non .nil))) .nil)))) [some x, o] s K = K (odd4 x) s := fun o K => by simp -implicitDefEqProofs [odd4, frz_m0]
  have l4 : (odd4 x).length = 4 := rfl
  have e5 : ∀ (o : Option D) (K : List D → Sto → Res RD), evs (callN tab m) tab.gc (.cons (.tup (.cons (.str "record") (.cons (.frz (.lst (.cons (.tup (.cons (.str "a") (.cons (.var 0) .nil))) .nil))) .nil))) (.cons (.tup (.cons (.str "record") (.cons (.tup (.cons (.frz (.lst (.cons (.str "a") (.cons (.var 0) .nil)))) .nil)) .nil))) (.cons (.tup (.cons (.str "record") (.cons (.tup (.cons (.tup (.cons (.str "a") .nil)) .nil)) .nil))) .nil))) [some x, o] s K = K (odd5 x) s := fun o K => by simp -implicitDefEqProofs [odd5, frz_m0]
  have l5 : (odd5 x).length = 3 := rfl
  have e6 : ∀ (o : Option D) (K : List D → Sto → Res RD), evs (callN tab m) tab.gc (.cons (.tup (.cons (.str "record") (.cons (.tup (.cons (.tup (.cons (.str "A") (.cons (.var 0) .nil))) .nil)) .nil))) (.cons (.tup (.cons (.str "record") (.cons (.tup (.cons (.tup (.cons (.str "b") (.cons (.var 0) .nil))) (.cons (.tup (.cons (.str "a") (.cons (.var 0) .nil))) .nil))) .nil))) .nil)) [some x, o] s K = K (odd6 x) s := fun o K => by simp -implicitDefEqProofs [odd6, frz_m0]
  have l6 : (odd6 x).length = 2 := rfl
  have e7 : ∀ (o : Option D) (K : List D → Sto → Res RD), evs (callN tab m) tab.gc (.cons (.tup (.cons (.str "record") (.cons (.tup (.cons (.tup (.cons (.str "a") (.cons (.var 0) .nil))) (.cons (.tup (.cons (.str "a") (.cons (.var 0) .nil))) .nil))) .nil))) (.cons (.bin .add (.tup (.cons (.str "record") (.cons (.tup .nil) .nil))) (.tup (.cons (.var 0) .nil))) (.cons (.tup (.cons (.str "record") .nil)) (.cons (.tup (.cons (.str "field") (.cons (.var 0) .nil))) .nil)))) [some x, o] s K = K (odd7 x) s := fun o K => by simp -implicitDefEqProofs [odd7, frz_m0]
  have l7 : (odd7 x).length = 4 := rfl
  have e8 : ∀ (o : Option D) (K : List D → Sto → Res RD), evs (callN tab m) tab.gc (.cons (.tup (.cons (.str "field") (.cons (.var 0) (.cons (.str "A") .nil)))) (.cons (.tup (.cons (.str "field") (.cons (.var 0) (.cons (.str "a") (.cons (.str "b") .nil))))) (.cons (.tup (.cons (.str "field") (.cons (.str "a") (.cons (.var 0) .nil)))) (.cons (.tup (.cons (.str "case") (.cons (.var 0) (.cons (.int 3) .nil)))) .nil)))) [some x, o] s K = K (odd8 x) s := fun o K => by simp -implicitDefEqProofs [odd8, frz_m0]
  have l8 : (odd8 x).length = 4 := rfl
  have e9 : ∀ (o : Option D) (K : List D → Sto → Res RD), evs (callN tab m) tab.gc (.cons (.tup (.cons (.str "case") (.cons (.var 0) .nil))) (.cons (.tup (.cons (.str "tag") (.cons (.tup (.cons (.str "number") .nil)) (.cons (.str "a") (.cons (.var 0) .nil))))) (.cons (.tup (.cons (.str "tag") (.cons (.tup (.cons (.str "choice") (.cons (.tup .nil) .nil))) (.cons (.str "a") (.cons (.var 0) .nil))))) .nil))) [some x, o] s K = K (odd9 x) s := fun o K => by simp -implicitDefEqProofs [odd9, frz_m0]
  have l9 : (odd9 x).length = 3 := rfl
  have e10 : ∀ (o : Option D) (K : List D → Sto → Res RD), evs (callN tab m) tab.gc (.cons (.tup (.cons (.str "tag") (.cons (.str "choice") (.cons (.str "a") (.cons (.var 0) .nil))))) (.cons (.tup (.cons (.str "tag") (.cons (.tup (.cons (.str "choice") (.cons (.tup (.cons (.tup (.cons (.str "a") (.cons (.tup (.cons (.str "number") .nil)) .nil))) .nil)) .nil))) (.cons (.int 3) (.cons (.var 0) .nil))))) .nil)) [some x, o] s K = K (odd10 x) s := fun o K => by simp -implicitDefEqProofs [odd10, frz_m0]
  have l10 : (odd10 x).length = 2 := rfl
  have e11 : ∀ (o : Option D) (K : List D → Sto → Res RD), evs (callN tab m) tab.gc (.cons (.tup (.cons (.str "tag") (.cons (.tup (.cons (.str "choice") (.cons (.tup (.cons (.tup (.cons (.str "a") (.cons (.tup (.cons (.str "number") .nil)) .nil))) .nil)) .nil))) (.cons (.str "a") .nil)))) .nil) [some x, o] s K = K (odd11 x) s := fun o K => by simp -implicitDefEqProofs [odd11, frz_m0]
  have l11 : (odd11 x).length = 1 := rfl
  have e12 : ∀ (o : Option D) (K : List D → Sto → Res RD), evs (callN tab m) tab.gc (.cons (.tup (.cons (.str "tag") (.cons (.tup (.cons (.str "choice") (.cons (.tup (.cons (.tup (.cons (.str "a") (.cons (.tup (.cons (.str "bag") (.cons (.tup (.cons (.str "number") .nil)) .nil))) .nil))) .nil)) .nil))) (.cons (.str "a") (.cons (.var 0) .nil))))) (.cons (.tup (.cons (.str "match") (.cons (.var 0) (.cons (.tup .nil) .nil)))) .nil)) [some x, o] s K = K (odd12 x) s := fun o K => by simp -implicitDefEqProofs [odd12, frz_m0]
  have l12 : (odd12 x).length = 2 := rfl
  have e13 : ∀ (o : Option D) (K : List D → Sto → Res RD), evs (callN tab m) tab.gc (.cons (.tup (.cons (.str "match") (.cons (.var 0) .nil))) (.cons (.tup (.cons (.str "match") (.cons (.var 0) (.cons (.tup (.cons (.tup (.cons (.str "a") (.cons (.str "X") (.cons (.var 0) .nil)))) .nil)) .nil)))) (.cons (.tup (.cons (.str "match") (.cons (.var 0) (.cons (.tup (.cons (.tup (.cons (.str "a") (.cons (.str "x") .nil))) .nil)) .nil)))) .nil))) [some x, o] s K = K (odd13 x) s := fun o K => by simp -implicitDefEqProofs [odd13, frz_m0]
  have l13 : (odd13 x).length = 3 := rfl
  have e14 : ∀ (o : Option D) (K : List D → Sto → Res RD), evs (callN tab m) tab.gc (.cons (.tup (.cons (.str "match") (.cons (.var 0) (.cons (.frz (.lst (.cons (.tup (.cons (.str "a") (.cons (.str "x") (.cons (.var 0) .nil)))) .nil))) .nil)))) (.cons (.tup (.cons (.str "match") (.cons (.var 0) (.cons (.tup (.cons (.tup (.cons (.str "b") (.cons (.str "x") (.cons (.var 0) .nil)))) (.cons (.tup (.cons (.str "a") (.cons (.str "x") (.cons (.var 0) .nil)))) .nil))) .nil)))) .nil)) [some x, o] s K = K (odd14 x) s := fun o K => by simp -implicitDefEqProofs [odd14, frz_m0]
  have l14 : (odd14 x).length = 2 := rfl
  have e15 : ∀ (o : Option D) (K : List D → Sto → Res RD), evs (callN tab m) tab.gc (.cons (.tup (.cons (.str "match") (.cons (.var 0) (.cons (.tup (.cons (.tup (.cons (.str "a") (.cons (.str "x") (.cons (.var 0) .nil)))) (.cons (.tup (.cons (.str "a") (.cons (.str "y") (.cons (.var 0) .nil)))) .nil))) .nil)))) (.cons (.tup (.cons (.str "if") (.cons (.var 0) (.cons (.var 0) .nil)))) (.cons (.tup (.cons (.str "if") (.cons (.var 0) (.cons (.var 0) (.cons (.var 0) (.cons (.var 0) .nil)))))) .nil))) [some x, o] s K = K (odd15 x) s := fun o K => by simp -implicitDefEqProofs [odd15, frz_m0]
  have l15 : (odd15 x).length = 3 := rfl
  have e16 : ∀ (o : Option D) (K : List D → Sto → Res RD), evs (callN tab m) tab.gc (.cons (.tup (.cons (.str "let") (.cons (.str "x") (.cons (.var 0) .nil)))) (.cons (.tup (.cons (.str "let") (.cons (.str "X") (.cons (.var 0) (.cons (.var 0) .nil))))) (.cons (.tup (.cons (.str "for") (.cons (.int 3) (.cons (.var 0) (.cons (.var 0) .nil))))) (.cons (.tup (.cons (.str "for") (.cons (.var 0) (.cons (.var 0) (.cons (.var 0) .nil))))) .nil)))) [some x, o] s K = K (odd16 x) s := fun o K => by simp -implicitDefEqProofs [odd16, frz_m0]
  have l16 : (odd16 x).length = 4 := rfl
  have e17 : ∀ (o : Option D) (K : List D → Sto → Res RD), evs (callN tab m) tab.gc (.cons (.tup (.cons (.str "sum") (.cons (.str "x") (.cons (.var 0) (.cons (.var 0) (.cons (.var 0) .nil)))))) (.cons (.tup (.cons (.str "one") .nil)) (.cons (.tup (.cons (.str "one") (.cons (.var 0) (.cons (.var 0) .nil)))) (.cons (.frz (.lst (.cons (.str "one") (.cons (.var 0) .nil)))) (.cons (.tup (.cons (.str "plus") (.cons (.var 0) .nil))) (.cons (.tup (.cons (.str "not") (.cons (.int 3) .nil))) .nil)))))) [some x, o] s K = K (odd17 x) s := fun o K => by simp -implicitDefEqProofs [odd17, frz_m0]
  have l17 : (odd17 x).length = 6 := rfl
  have e18 : ∀ (o : Option D) (K : List D → Sto → Res RD), evs (callN tab m) tab.gc (.cons (.tup (.cons (.str "both") (.cons (.var 0) (.cons (.var 0) (.cons (.var 0) .nil))))) (.cons (.tup (.cons (.str "both") (.cons (.var 0) .nil))) (.cons (.tup (.cons (.str "open") (.cons (.var 0) .nil))) (.cons (.tup (.cons (.str "One") (.cons (.var 0) .nil))) (.cons (.tup (.cons (.str "maybe") (.cons (.var 0) .nil))) .nil))))) [some x, o] s K = K (odd18 x) s := fun o K => by simp -implicitDefEqProofs [odd18, frz_m0]
  have l18 : (odd18 x).length = 5 := rfl
  have e19 : ∀ (o : Option D) (K : List D → Sto → Res RD), evs (callN tab m) tab.gc (.cons (.tup (.cons (.str "group") (.cons (.str "x") (.cons (.var 0) (.cons (.var 0) .nil))))) (.cons (.tup (.cons (.var 0) (.cons (.var 0) .nil))) .nil)) [some x, o] s K = K (odd19 x) s := fun o K => by simp -implicitDefEqProofs [odd19, frz_m0]
  have l19 : (odd19 x).length = 2 := rfl
  have e20 : ∀ (o : Option D) (K : List D → Sto → Res RD), evs (callN tab m) tab.gc (.cons (.tup (.cons (.frz (.lst .nil)) (.cons (.var 0) .nil))) (.cons (.tup (.cons (.frz .dnew) (.cons (.str "x") .nil))) (.cons (.tup (.cons (.str "name") (.cons (.frz (.lst .nil)) .nil))) (.cons (.tup (.cons (.str "number") (.cons (.frz .dnew) .nil))) (.cons (.tup (.cons (.str "truth") (.cons (.frz (.lst .nil)) .nil))) (.cons (.tup (.cons (.str "empty") (.cons (.frz (.lst .nil)) .nil))) .nil)))))) [some x, o] s K = K (odd20 x) s := fun o K => by simp -implicitDefEqProofs [odd20, frz_m0]
  have l20 : (odd20 x).length = 6 := rfl
  have e21 : ∀ (o : Option D) (K : List D → Sto → Res RD), evs (callN tab m) tab.gc (.cons (.tup (.cons (.str "record") (.cons (.frz .dnew) .nil))) (.cons (.tup (.cons (.str "field") (.cons (.var 0) (.cons (.frz (.lst .nil)) .nil)))) (.cons (.tup (.cons (.str "case") (.cons (.var 0) (.cons (.frz .dnew) .nil)))) (.cons (.tup (.cons (.str "for") (.cons (.frz (.lst .nil)) (.cons (.var 0) (.cons (.var 0) .nil))))) (.cons (.tup (.cons (.str "let") (.cons (.frz .dnew) (.cons (.var 0) (.cons (.var 0) .nil))))) .nil))))) [some x, o] s K = K (odd21 x) s := fun o K => by simp -implicitDefEqProofs [odd21, frz_m0]
  have l21 : (odd21 x).length = 5 := rfl
  have e22 : ∀ (o : Option D) (K : List D → Sto → Res RD), evs (callN tab m) tab.gc (.cons (.tup (.cons (.frz (.lst (.cons (.str "one") .nil))) (.cons (.var 0) .nil))) (.cons (.tup (.cons (.str "empty") (.cons (.tup (.cons (.frz .dnew) .nil)) .nil))) (.cons (.tup (.cons (.str "record") (.cons (.tup (.cons (.tup (.cons (.frz (.lst .nil)) (.cons (.var 0) .nil))) .nil)) .nil))) (.cons (.tup (.cons (.str "match") (.cons (.var 0) (.cons (.tup (.cons (.tup (.cons (.str "a") (.cons (.frz .dnew) (.cons (.var 0) .nil)))) .nil)) .nil)))) .nil)))) [some x, o] s K = K (odd22 x) s := fun o K => by simp -implicitDefEqProofs [odd22, frz_m0]
  have l22 : (odd22 x).length = 4 := rfl
  have e23 : ∀ (o : Option D) (K : List D → Sto → Res RD), evs (callN tab m) tab.gc (.cons (.tup (.cons (.str "tag") (.cons (.frz (.lst .nil)) (.cons (.str "a") (.cons (.var 0) .nil))))) (.cons (.tup (.cons (.str "match") (.cons (.var 0) (.cons (.frz .dnew) .nil)))) (.cons (.tup (.cons (.str "match") (.cons (.var 0) (.cons (.tup (.cons (.frz (.lst .nil)) (.cons (.var 0) .nil))) .nil)))) (.cons (.tup (.cons (.str "match") (.cons (.frz (.lst .nil)) (.cons (.tup (.cons (.tup (.cons (.str "a") (.cons (.str "x") (.cons (.var 0) .nil)))) .nil)) .nil)))) .nil)))) [some x, o] s K = K (odd23 x) s := fun o K => by simp -implicitDefEqProofs [odd23, frz_m0]
  have l23 : (odd23 x).length = 4 := rfl
  unfold oddL at hf ⊢
  generalize odd0 x = z0, odd1 x = z1, odd2 x = z2, odd3 x = z3, odd4 x = z4, odd5 x = z5, odd6 x = z6, odd7 x = z7, odd8 x = z8, odd9 x = z9, odd10 x = z10, odd11 x = z11, odd12 x = z12, odd13 x = z13, odd14 x = z14, odd15 x = z15, odd16 x = z16, odd17 x = z17, odd18 x = z18, odd19 x = z19, odd20 x = z20, odd21 x = z21, odd22 x = z22, odd23 x = z23 at *
  simp only [List.append_assoc] at hf ⊢
  simp -implicitDefEqProofs [-evs_cons, -evs_nil, f_odd_things, b_odd_things, ↓e0, l0, ↓e1, l1, ↓e2, l2, ↓e3, l3, ↓e4, l4, ↓e5, l5, ↓e6, l6, ↓e7, l7, ↓e8, l8, ↓e9, l9, ↓e10, l10, ↓e11, l11, ↓e12, l12, ↓e13, l13, ↓e14, l14, ↓e15, l15, ↓e16, l16, ↓e17, l17, ↓e18, l18, ↓e19, l19, ↓e20, l20, ↓e21, l21, ↓e22, l22, ↓e23, l23, hf]
theorem oddL_len (x : D) : (oddL x).length = 96 := by
  have l0 : (odd0 x).length = 12 := rfl
  have l1 : (odd1 x).length = 5 := rfl
  have l2 : (odd2 x).length = 5 := rfl
  have l3 : (odd3 x).length = 5 := rfl
  have l4 : (odd4 x).length = 4 := rfl
  have l5 : (odd5 x).length = 3 := rfl
  have l6 : (odd6 x).length = 2 := rfl
  have l7 : (odd7 x).length = 4 := rfl
  have l8 : (odd8 x).length = 4 := rfl
  have l9 : (odd9 x).length = 3 := rfl
  have l10 : (odd10 x).length = 2 := rfl
  have l11 : (odd11 x).length = 1 := rfl
  have l12 : (odd12 x).length = 2 := rfl
  have l13 : (odd13 x).length = 3 := rfl
  have l14 : (odd14 x).length = 2 := rfl
  have l15 : (odd15 x).length = 3 := rfl
  have l16 : (odd16 x).length = 4 := rfl
  have l17 : (odd17 x).length = 6 := rfl
  have l18 : (odd18 x).length = 5 := rfl
  have l19 : (odd19 x).length = 2 := rfl
  have l20 : (odd20 x).length = 6 := rfl
  have l21 : (odd21 x).length = 5 := rfl
  have l22 : (odd22 x).length = 4 := rfl
  have l23 : (odd23 x).length = 4 := rfl
  unfold oddL
  simp only [List.length_append, l0, l1, l2, l3, l4, l5, l6, l7, l8, l9, l10, l11, l12, l13, l14, l15, l16, l17, l18, l19, l20, l21, l22, l23]
end Nv.K21

set_option Elab.async false
set_option maxRecDepth 100000
set_option autoImplicit false
set_option linter.all false
set_option maxHeartbeats 4000000
/-! K21: the law -/
namespace Nv.K21
open PySem PySem.Spec PyProof.Rows L2 S2
theorem t_quest {m n k : Nat} {s : Sto} {q : Q} (hm : 9 * k + 34 ≤ m) (hs : Clo s) (h : gq k q) : callN tab m (c "is_question") [q.toD] s = .ok (.d (.bl true)) s := by
  have h1 := gq_od h
  rw [quest_of eV (3 * k + 8) m s q.toD (by omega) hs h1, gq_b h h1.2]
theorem t_bad {m a : Nat} {s : Sto} {y : D} (hm : 3 * (a + 4) + 10 ≤ m) (hs : Clo s) (h : Bad a y) : callN tab m (c "is_question") [y] s = .ok (.d (.bl false)) s := by
  rw [quest_of eV (a + 4) m s y hm hs ⟨h.2.1, h.2.2⟩, h.1]
theorem t_right {m : Nat} {s : Sto} {a : Int} (hm : 190 ≤ m) (hs : Clo s) : callN tab m (c "_law_right") [.int a] s = .ok (.d (.bl true)) s := by
  obtain ⟨m, rfl⟩ : ∃ k, m = k + 1 := ⟨m - 1, by omega⟩
  obtain ⟨x0, y0, e1⟩ := t_pot3 eG (m := m) (s := s) (a := a) (b := 18) (by omega) hs
  have hp1 : PotAt 3 s.length (s ++ [potL [x0, y0, 18]]) := ⟨hs.push (lt_ints _), _, rfl, mid_at⟩
  have th1 : third (s ++ [potL [x0, y0, 18]]) s.length = 18 := third_at mid_at
  obtain ⟨q, s2, hq, p2, b2, e2⟩ := t_question eG 8 (by omega) m s.length _ (by omega) hp1
  rw [th1] at b2
  have e2 : callN tab m (c "_law_question") [.obj s.length, .int 8] (s ++ [potL [x0, y0, 18]]) = .ok (.d q.toD) s2 := e2
  have hqz : q.sz ≤ 50 := by
    have := b2.2
    unfold Bq at this
    rw [if_neg (by decide)] at this
    omega
  have hp2 := p2.at_ hp1
  have hs2 := hp2.clo
  have e3 := t_law_places eP at_parts at_places (n := 9) (m := m) (s := s2) (by omega) (by omega) hs2 hq.ok (by omega)
  have hpos := sz_pos q
  have hlen : q.pls.length = q.sz := rfl
  obtain ⟨i, s3, i1, i2, p3, e4⟩ := t_digit eG (m := m) (s := s2) (k := (q.pls.length : Int)) (by omega) hp2 (by omega) (by
    have h250 : (100000 : Int) < 2 ^ 250 := by decide
    omega)
  obtain ⟨p, hp, ep⟩ := at_mem i1 i2
  have ea : atI (q.pls.map plD) i = some (plD p) := by rw [atI_map, ep]; rfl
  obtain ⟨d, hd⟩ := pls_at hp
  have hp3 := p3.at_ hp2
  have hs3 := hp3.clo
  have hpl := pls_len hp hq.ok
  obtain ⟨x1, y1, e5⟩ := t_pot3 eG (m := m) (s := s3) (a := a.fdiv 3) (b := 4) (by omega) hs3
  have hp4 : PotAt 3 s3.length (s3 ++ [potL [x1, y1, 4]]) := ⟨hs3.push (lt_ints _), _, rfl, mid_at⟩
  obtain ⟨o, s4, gq2, p4, b4, e6⟩ := t_question eG 2 (by omega) m s3.length _ (by omega) hp4
  obtain ⟨is4, l34, rfl⟩ := p4
  rw [set_mid] at e6
  have e6 : callN tab m (c "_law_question") [.obj s3.length, .int 2] (s3 ++ [potL [x1, y1, 4]]) = .ok (.d o.toD) (s3 ++ [potL is4]) := e6
  have hp5 : PotAt 3 s.length (s3 ++ [potL is4]) := hp3.push (lt_ints _)
  have hs5 := hp5.clo
  have ood := gq_od gq2
  obtain ⟨w, r, ow, _⟩ := toD_word gq2.ok
  have bad := bad_all (a := 17) ow ood.1 ood.2 (by omega)
  have e7 := t_odd (m := m) (s := s3 ++ [potL is4]) (x := o.toD) (by omega) hs5 (odds_lt fun y hy => (bad y hy).2.1)
  have hl96 := oddL_len o.toD
  generalize oddL o.toD = L at bad e7 hl96
  obtain ⟨i', s6, i3, i4, p6, e8⟩ := t_digit eG (m := m) (s := s3 ++ [potL is4]) (k := (L.length : Int)) (by omega) hp5 (by omega) (by
    have h250 : (100000 : Int) < 2 ^ 250 := by decide
    omega)
  obtain ⟨y, hy, ey⟩ := at_mem i3 i4
  have hp6 := p6.at_ hp5
  have hs6 := hp6.clo
  have by_ := bad y hy
  have e9 := t_quest (m := m) (s := s6) (n := 0) (by omega) hs6 hq
  have e10 := cp_if (β := RD) (cf := callN tab m) (g := tab.gc) (s := s6) (src := none) (tg := .v 7) (c := .cmp .isn (.call (c "is_question") (.cons (.var 7) .nil)) (.bl false)) (elt := .var 7) (p := fun _ => false) (f := fun d => d)
    (l := wipeL [some (.int a), some (.obj s.length), some q.toD, some (.lf (q.pls.map plD)), some (plD p), some (.lf L), some y, none, none] [7]) trivial (acc := []) (ds := L) (by rw [sizeLine_eq, List.length_nil]; omega) (fun z hz K1 K2 => by
      have f1 := t_bad (m := m) (s := s6) (by omega) hs6 (bad z hz)
      simp -implicitDefEqProofs [wipeL, callK_of f1])
  have hfl : ((L.filter fun _ => false).map fun d : D => d) = [] := by simp
  rw [hfl, List.nil_append] at e10
  have e11 : eqR s6 (.l []) (.l []) = some true := by
    unfold eqR
    have c3 : SeqAt.shaped (.list []) = true := by decide
    show (if _ ∧ _ then some _ else _) = _
    rw [if_pos ⟨c3, c3⟩]; rfl
  have e12 := t_law_withX eP at_with (ox := y) (fun n => okD_lt by_.2.1) (m := m) (s := s6) (by omega) hs6 hq.ok hd
  have hpo := putX_od (x := y) (a := 21) ⟨by_.2.1, by_.2.2⟩ hq hd
  have e13 : callN tab m (c "is_question") [putX y q p] s6 = .ok (.d (.bl false)) s6 := by
    rw [quest_of eV (3 * 9 + 8 + 21) m s6 _ (by omega) hs6 hpo, putX_no by_.1 hq hd]
  obtain ⟨w', r', qw, _⟩ := toD_word hq.ok
  have qod := gq_od hq
  have e14 : callN tab m (c "is_question") [.lf (.str w' :: r')] s6 = .ok (.d (.bl false)) s6 := by
    rw [qw] at qod
    rw [quest_of eV 35 m s6 _ (by omega) hs6 (od_lf (fun d hd => (Od.kid (n := 34) qod hd).mono (by omega)) qod.len), quest_no fun _ _ e => by cases e]
  have e15 := t_law_parts eP at_parts (m := m) (s := s6) (by omega) hs6 hq.ok
  have hkl : (q.kids.map Q.toD).length ≤ 4 := by
    rw [List.length_map]
    obtain ⟨f, _⟩ := hq
    exact fits_few f
  have e16 := cp_all (β := RD) (cf := callN tab m) (g := tab.gc) (s := s6) (src := none) (tg := .v 8) (c := .nil) (elt := .cmp .is (.call (c "is_question") (.cons (.var 8) .nil)) (.bl true))
    (l := wipeL [some (.int a), some (.obj s.length), some q.toD, some (.lf (q.pls.map plD)), some (plD p), some (.lf L), some y, none, none] [8]) trivial (acc := []) (ds := q.kids.map Q.toD) (ys := (q.kids.map Q.toD).map fun _ => D.bl true) (by rw [sizeLine_eq, List.length_nil]; omega) (All2.map fun z hz K1 K2 => by
      obtain ⟨k, hk, rfl⟩ := List.mem_map.mp hz
      have f1 := t_quest (m := m) (s := s6) (n := 0) (by omega) hs6 (gq_kid hq hk)
      simp -implicitDefEqProofs [wipeL, callK_of f1])
  have e17 := all_map (s := s6) (f := fun _ => true) (xs := q.kids.map Q.toD)
  have e18 : ((q.kids.map Q.toD).all fun _ => true) = true := by simp
  rw [e18] at e17
  rw [List.nil_append] at e16
  have htk : s6.take s.length = s := by
    rw [p6.take (Nat.le_refl _), List.take_append_of_le_length (by have := hp3.lt; omega), p3.take (Nat.le_refl _), p2.take (Nat.le_refl _), List.take_left]
  have hf := fin_keep (d := .d (.bl true)) hs htk rfl
  have hdv : CDivN a 3 := div_small (by decide) (by decide)
  rw [call_at at_right rfl]
  simp only [potL, List.map_cons, List.map_nil] at *
  have hlp : (((q.pls.map plD).length : Nat) : Int) = (q.pls.length : Int) := by rw [List.length_map]
  generalize ((q.kids.map Q.toD).map fun _ => D.bl true) = Z at *
  generalize q.kids.map Q.toD = Y at *
  generalize hPL : q.pls.map plD = PL at *
  rw [← hlp] at e4
  have hlst : b1R .list s6 (.d q.toD) = some (.l (.str w' :: r')) := by rw [qw]; rfl
  simp -implicitDefEqProofs [f_right, b_right, callK_of e1, callK_of e2, callK_of e3, callK_of e4, ea, bin_fdiv hdv, callK_of e5, callK_of e6, callK_of e7, callK_of e8, ey, callK_of e9, e10, e11, callK_of e12, callK_of e13, hlst, callK_of e14, callK_of e15, e16, e17, hf]
theorem rec_q : Q.toD (.node (.rcd []) []) = .tup [.str "record", .tup []] := rfl
theorem rec_gq : gq 1 (.node (.rcd []) []) := ⟨⟨rfl, by show (0 : Nat) ≤ 3; decide, fun n hn => by cases hn⟩, ⟨.nil, fun n hn => by cases hn⟩, fun c hc => by cases hc⟩
theorem emp_gq : gq 1 (.node (.leaf "empty" (kD (.rcd .nil))) []) := by
  have hk : gk (.rcd .nil) := ⟨trivial, .nil, by decide⟩
  exact ⟨⟨rfl, by decide, (kD_sh (.rcd .nil) hk).mono (by decide)⟩, .inr (.inr (.inr (.inl ⟨rfl, .rcd .nil, rfl, hk, by decide⟩))), fun c hc => by cases hc⟩
theorem holds (ns : List Int) (h : ns.length ≤ 63) : ∃ s, callN tab (199 + 1) 35 [.lf (ns.map D.int)] [] = .ok (.d (.bl true)) s := by
  have hs : Clo [] := rfl
  obtain ⟨v, e1⟩ := t_cell at_cell (m := 199) (s := []) (ns := ns) (k := 12) (by omega) hs (by omega)
  have e1 : callN tab 199 (c "_law_cell") [.lf (ns.map D.int), .int 12] [] = .ok (.d (.int v)) [] := e1
  have c7 : CMul 7 (ns.length : Int) := mul_small (by decide) (by decide)
  have hcut : cutD (ns.map D.int) none (some 12) = (ns.take 12).map D.int := by
    have := cut_to (xs := ns.map D.int) (k := 12)
    rw [List.map_take]
    exact this
  have hbin : binR .add [] (.l [.int (v + 7 * (ns.length : Int))]) (.l ((ns.take 12).map D.int)) = some (.l (((v + 7 * (ns.length : Int)) :: ns.take 12).map D.int)) := bin_ll (by rw [List.length_map, sizeLine_eq]; have := List.length_take_le 12 ns; simp; omega)
  obtain ⟨l2, ⟨o1, rfl⟩, e2⟩ := for_pure (β := RD) (cf := callN tab 199) (g := tab.gc) (s := []) (tg := .v 1) (u := .cons (.ifs (.nt (.call (c "_law_right") (.cons (.var 1) .nil))) (.cons (.ret (.bl false)) .nil) .nil) .nil)
    (P := fun x => ∃ i : Int, x = .int i) (I := fun l => ∃ o1 : Option D, l = [some (.lf (ns.map D.int)), o1]) (ds := ((v + 7 * (ns.length : Int)) :: ns.take 12).map D.int) (l := [some (.lf (ns.map D.int)), none]) ⟨none, rfl⟩ (fun d hd => by
      obtain ⟨i, _, rfl⟩ := List.mem_map.mp hd
      exact ⟨i, rfl⟩) (by
      rintro x l ⟨i, rfl⟩ ⟨o1, rfl⟩
      have e2 := t_right (m := 199) (s := []) (a := i) (by omega) hs
      refine ⟨_, ⟨some (.int i), rfl⟩, fun F => ?_⟩
      simp -implicitDefEqProofs [callK_of e2])
  have e3 := t_quest (m := 199) (s := []) (n := 0) (by omega) hs rec_gq
  have e4 := t_quest (m := 199) (s := []) (n := 0) (by omega) hs emp_gq
  have e3 : callN tab 199 (c "is_question") [.tup [.str "record", .tup []]] [] = .ok (.d (.bl true)) [] := e3
  have e4 : callN tab 199 (c "is_question") [.tup [.str "empty", .tup [.str "record", .tup []]]] [] = .ok (.d (.bl true)) [] := e4
  have hf : Nv.fin 0 (.d (.bl true)) [] = .ok (.d (.bl true)) [] := fin_d (s := []) (d := .bl true) hs rfl
  refine ⟨[], ?_⟩
  rw [call_at (F := f_p_law c g) rfl rfl]
  generalize (ns.take 12).map D.int = X at *
  generalize hY : ((v + 7 * (ns.length : Int)) :: ns.take 12).map D.int = Y at *
  simp -implicitDefEqProofs [f_p_law, b_p_law, callK_of e1, bin_mul c7, hcut, hbin, e2, callK_of e3, callK_of e4, hf]
end Nv.K21

set_option Elab.async false
set_option linter.all false
set_option maxRecDepth 100000
set_option autoImplicit false
open PySem PySem.W PyProof.Rows
set_option maxHeartbeats 0 in
theorem PySem.Challenge.cw_nestviews_k21_questions_told_apart_holds : PySem.Challenge.rw_nestviews_k21_questions_told_apart.Holds := by
  w_on; o_law; k_head; (case hw => w_witness2)
  k_fill
  refine L2.walk_of (l := PySem.Challenge.rw_nestviews_k21_questions_told_apart) (n := 63) (k := 200) (x := "_law_script") (CX := fun w => L2.CX (PySem.Challenge.rw_nestviews_k21_questions_told_apart).prog w) (sp := fun _ => Nv.spLaw _) rfl (by decide) rfl ⟨rfl, by decide, by decide⟩ (fun w h Y => PySem.W.kIn_of Y) ?F (fun _ _ a ns hl hO hS => ⟨a, ns, rfl, Nv.sqf_only hO hS, hl, fun _ => rfl⟩) (fun _ _ _ _ _ h => Nv.cx_no h)
  case F =>
    intro w mg fa h KX G hmg
    refine Nv.law_end (n := 199) (T := Nv.K21.tab) (i := 35) ?E rfl rfl rfl hmg Nv.K21.holds
    refine' Nv.K21.all_mk KX G ?nva0 ?nvl0 ?nvc0 ?nvk0 ?nva1 ?nvl1 ?nvc1 ?nvk1 ?nva2 ?nvl2 ?nvc2 ?nvk2 ?nva3 ?nvl3 ?nvc3 ?nvk3 ?nva4 ?nvl4 ?nvc4 ?nvk4 ?nva5 ?nvl5 ?nvc5 ?nvk5 ?nva6 ?nvl6 ?nvc6 ?nvk6 ?nva7 ?nvl7 ?nvc7 ?nvk7 ?nva8 ?nvl8 ?nvc8 ?nvk8 ?nva9 ?nvl9 ?nvc9 ?nvk9 ?nva10 ?nvl10 ?nvc10 ?nvk10 ?nva11 ?nvl11 ?nvc11 ?nvk11 ?nva12 ?nvl12 ?nvc12 ?nvk12 ?nva13 ?nvl13 ?nvc13 ?nvk13 ?nva14 ?nvl14 ?nvc14 ?nvk14 ?nva15 ?nvl15 ?nvc15 ?nvk15 ?nva16 ?nvl16 ?nvc16 ?nvk16 ?nva17 ?nvl17 ?nvc17 ?nvk17 ?nva18 ?nvl18 ?nvc18 ?nvk18 ?nva19 ?nvl19 ?nvc19 ?nvk19 ?nva20 ?nvl20 ?nvc20 ?nvk20 ?nva21 ?nvl21 ?nvc21 ?nvk21 ?nva22 ?nvl22 ?nvc22 ?nvk22 ?nva23 ?nvl23 ?nvc23 ?nvk23 ?nva24 ?nvl24 ?nvc24 ?nvk24 ?nva25 ?nvl25 ?nvc25 ?nvk25 ?nva26 ?nvl26 ?nvc26 ?nvk26 ?nva27 ?nvl27 ?nvc27 ?nvk27 ?nva28 ?nvl28 ?nvc28 ?nvk28 ?nva29 ?nvl29 ?nvc29 ?nvk29 ?nva30 ?nvl30 ?nvc30 ?nvk30 ?nva31 ?nvl31 ?nvc31 ?nvk31 ?nva32 ?nvl32 ?nvc32 ?nvk32 ?nva33 ?nvl33 ?nvc33 ?nvk33 ?nva34 ?nvl34 ?nvc34 ?nvk34 ?nva35 ?nvl35 ?nvc35 ?nvk35 ?nvz0 ?nvz1 ?nvz2 ?nvz3 ?nvz4 ?nvz5 ?nvz6 ?nvz7 ?nvz8 ?nvz9 ?nvz10 ?nvz11 ?nvg0 ?nvh0 ?nvg1 ?nvg2 ?nvg3 ?nvg4 ?nvg5 ?nvg6 ?nvh6 ?nvg7 ?nvh7 ?nvg8 ?nvh8 ?nv_ka0 ?nv_kl0 ?nv_kq0 ?nv_ko0 ?nv_kk0 ?nv_kv0_0 ?nv_kv0_1 ?nv_kv0_2 ?nv_kv0_3 ?nv_kv0_4 ?nv_kv0_5 ?nv_kv0_6 ?nv_kv0_7 ?nv_kv0_8 ?nv_kv0_9
    (case nva0 => k_is); (case nvl0 => k_is); (case nvc0 => k_is); (case nvk0 => k_is); (case nva1 => k_is); (case nvl1 => k_is); (case nvc1 => k_is); (case nvk1 => k_is); (case nva2 => k_is); (case nvl2 => k_is); (case nvc2 => k_is); (case nvk2 => k_is); (case nva3 => k_is); (case nvl3 => k_is); (case nvc3 => k_is); (case nvk3 => k_is); (case nva4 => k_is); (case nvl4 => k_is); (case nvc4 => k_is); (case nvk4 => k_is); (case nva5 => k_is); (case nvl5 => k_is); (case nvc5 => k_is); (case nvk5 => k_is); (case nva6 => k_is); (case nvl6 => k_is); (case nvc6 => k_is); (case nvk6 => k_is); (case nva7 => k_is); (case nvl7 => k_is); (case nvc7 => k_is); (case nvk7 => k_is); (case nva8 => k_is); (case nvl8 => k_is); (case nvc8 => k_is); (case nvk8 => k_is); (case nva9 => k_is); (case nvl9 => k_is); (case nvc9 => k_is); (case nvk9 => k_is); (case nva10 => k_is); (case nvl10 => k_is); (case nvc10 => k_is); (case nvk10 => k_is); (case nva11 => k_is); (case nvl11 => k_is); (case nvc11 => k_is); (case nvk11 => k_is); (case nva12 => k_is); (case nvl12 => k_is); (case nvc12 => k_is); (case nvk12 => k_is); (case nva13 => k_is); (case nvl13 => k_is); (case nvc13 => k_is); (case nvk13 => k_is); (case nva14 => k_is); (case nvl14 => k_is); (case nvc14 => k_is); (case nvk14 => k_is); (case nva15 => k_is); (case nvl15 => k_is); (case nvc15 => k_is); (case nvk15 => k_is); (case nva16 => k_is); (case nvl16 => k_is); (case nvc16 => k_is); (case nvk16 => k_is); (case nva17 => k_is); (case nvl17 => k_is); (case nvc17 => k_is); (case nvk17 => k_is); (case nva18 => k_is); (case nvl18 => k_is); (case nvc18 => k_is); (case nvk18 => k_is); (case nva19 => k_is); (case nvl19 => k_is); (case nvc19 => k_is); (case nvk19 => k_is); (case nva20 => k_is); (case nvl20 => k_is); (case nvc20 => k_is); (case nvk20 => k_is); (case nva21 => k_is); (case nvl21 => k_is); (case nvc21 => k_is); (case nvk21 => k_is); (case nva22 => k_is); (case nvl22 => k_is); (case nvc22 => k_is); (case nvk22 => k_is); (case nva23 => k_is); (case nvl23 => k_is); (case nvc23 => k_is); (case nvk23 => k_is); (case nva24 => k_is); (case nvl24 => k_is); (case nvc24 => k_is); (case nvk24 => k_is); (case nva25 => k_is); (case nvl25 => k_is); (case nvc25 => k_is); (case nvk25 => k_is); (case nva26 => k_is); (case nvl26 => k_is); (case nvc26 => k_is); (case nvk26 => k_is); (case nva27 => k_is); (case nvl27 => k_is); (case nvc27 => k_is); (case nvk27 => k_is); (case nva28 => k_is); (case nvl28 => k_is); (case nvc28 => k_is); (case nvk28 => k_is); (case nva29 => k_is); (case nvl29 => k_is); (case nvc29 => k_is); (case nvk29 => k_is); (case nva30 => k_is); (case nvl30 => k_is); (case nvc30 => k_is); (case nvk30 => k_is); (case nva31 => k_is); (case nvl31 => k_is); (case nvc31 => k_is); (case nvk31 => k_is); (case nva32 => k_is); (case nvl32 => k_is); (case nvc32 => k_is); (case nvk32 => k_is); (case nva33 => k_is); (case nvl33 => k_is); (case nvc33 => k_is); (case nvk33 => k_is); (case nva34 => k_is); (case nvl34 => k_is); (case nvc34 => k_is); (case nvk34 => k_is); (case nva35 => k_is); (case nvl35 => k_is); (case nvc35 => k_is); (case nvk35 => k_is); (case nvz0 => k_is); (case nvz1 => k_is); (case nvz2 => k_is); (case nvz3 => k_is); (case nvz4 => k_is); (case nvz5 => k_is); (case nvz6 => k_is); (case nvz7 => k_is); (case nvz8 => k_is); (case nvz9 => k_is); (case nvz10 => k_is); (case nvz11 => k_is); (case nvg0 => k_is); (case nvh0 => k_is); (case nvg1 => k_is); (case nvg2 => k_is); (case nvg3 => k_is); (case nvg4 => k_is); (case nvg5 => k_is); (case nvg6 => k_is); (case nvh6 => k_is); (case nvg7 => k_is); (case nvh7 => k_is); (case nvg8 => k_is); (case nvh8 => k_is); (case nv_ka0 => k_is); (case nv_kl0 => k_is); (case nv_kq0 => k_keys); (case nv_ko0 => decide); (case nv_kk0 => rfl); (case nv_kv0_0 => k_is); (case nv_kv0_1 => k_is); (case nv_kv0_2 => k_is); (case nv_kv0_3 => k_is); (case nv_kv0_4 => k_is); (case nv_kv0_5 => k_is); (case nv_kv0_6 => k_is); (case nv_kv0_7 => k_is); (case nv_kv0_8 => k_is); (case nv_kv0_9 => k_is)

