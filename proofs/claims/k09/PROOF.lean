import PyProof.Rows.All
import HandS.ForMost
import HandS.Exc
import HandS.ExcOwn
import KE.DataEq
import HandS.Wide
import HandS.RaiseMore
import HandS.TupAny
import KE.KEqDict
import HandS.IsInst
import HandS.TupLen
import HandS.Conv
import HandS.Style
import HandS.WordsExc
import HandS.Zip
import HandS.Small
import HandS.Ends
import HandS.HeadEnd
import HandS.Head0
import HandS.Head1
import HandS.Head2
import HandS.HeadHook1
import HandS.HeadHook2
import HandS.HeadNt
import PySem.Challenge.RW_whyfacts_k09_tests
set_option Elab.async false
set_option linter.all false
/-! VSa: pure data, the small language, what it evaluates to. -/
namespace VS
open PySem

/-- pure data -/
inductive D where
  | non | bl (b : Bool) | int (i : Int) | str (x : Str)
  | tup (ds : List D) | lst (ds : List D) | dct (kvs : List (D × D))
  | obj (n : Nat) | scr (ns : List Int)

mutual
def D.beq : D → D → Bool
  | .non, .non => true
  | .bl a, .bl b => a == b
  | .int a, .int b => a == b
  | .str a, .str b => decide (a = b)
  | .tup a, .tup b => D.beqs a b
  | .lst a, .lst b => D.beqs a b
  | .dct a, .dct b => D.beqk a b
  | .obj a, .obj b => a == b
  | .scr a, .scr b => decide (a = b)
  | _, _ => false
def D.beqs : List D → List D → Bool
  | [], [] => true
  | a :: as, b :: bs => D.beq a b && D.beqs as bs
  | _, _ => false
def D.beqk : List (D × D) → List (D × D) → Bool
  | [], [] => true
  | (a, x) :: as, (b, y) :: bs => D.beq a b && D.beq x y && D.beqk as bs
  | _, _ => false
end
mutual
theorem D.beq_iff : ∀ (a b : D), D.beq a b = true ↔ a = b
  | .non, b => by cases b <;> simp [D.beq]
  | .bl _, b => by cases b <;> simp [D.beq]
  | .int _, b => by cases b <;> simp [D.beq]
  | .str _, b => by cases b <;> simp [D.beq]
  | .obj _, b => by cases b <;> simp [D.beq]
  | .scr _, b => by cases b <;> simp [D.beq]
  | .tup x, b => by cases b <;> simp [D.beq]; exact D.beqs_iff x _
  | .lst x, b => by cases b <;> simp [D.beq]; exact D.beqs_iff x _
  | .dct x, b => by cases b <;> simp [D.beq]; exact D.beqk_iff x _
theorem D.beqs_iff : ∀ (a b : List D), D.beqs a b = true ↔ a = b
  | [], b => by cases b <;> simp [D.beqs]
  | x :: xs, b => by
    cases b with
    | nil => simp [D.beqs]
    | cons y ys => simp [D.beqs, D.beq_iff x y, D.beqs_iff xs ys]
theorem D.beqk_iff : ∀ (a b : List (D × D)), D.beqk a b = true ↔ a = b
  | [], b => by cases b <;> simp [D.beqk]
  | (k, x) :: xs, b => by
    cases b with
    | nil => simp [D.beqk]
    | cons y ys =>
      obtain ⟨l, y⟩ := y
      simp [D.beqk, D.beq_iff k l, D.beq_iff x y, D.beqk_iff xs ys, and_assoc]
end
instance : DecidableEq D := fun a b => decidable_of_iff (D.beq a b = true) (D.beq_iff a b)
end VS

/-! VSb: owned trees, memory, the small language and its evaluator. -/
namespace VS
open PySem L2

/-- trees that one holder owns (and may change) over pure data -/
inductive F where
  | d (x : D) | lst (fs : List F) | tup (fs : List F) | dct (kfs : List (D × F))
mutual
def F.data : F → D
  | .d x => x
  | .lst fs => .lst (F.datas fs)
  | .tup fs => .tup (F.datas fs)
  | .dct kfs => .dct (F.datak kfs)
def F.datas : List F → List D
  | [] => []
  | f :: fs => f.data :: F.datas fs
def F.datak : List (D × F) → List (D × D)
  | [] => []
  | (k, f) :: fs => (k, f.data) :: F.datak fs
end
/-- a result: to be kept (v), or lent for a look (w) -/
inductive R where
  | v (f : F) | w (f : F)
def R.f : R → F
  | .v f => f
  | .w f => f
def R.data (r : R) : D := r.f.data
abbrev R.p (x : D) : R := .v (.d x)
/-- the pure datum -/
def R.pd (r : R) : Option D := match r.f with
  | .d x => some x
  | _ => none
def R.val? : R → Option F
  | .v f => some f
  | .w _ => none
def R.vals : List R → Option (List F)
  | [] => some []
  | .v f :: rs => (R.vals rs).map (f :: ·)
  | .w _ :: _ => none
def F.pures : List F → Option (List D)
  | [] => some []
  | .d x :: fs => (F.pures fs).map (x :: ·)
  | _ :: _ => none
def F.purek : List (D × F) → Option (List (D × D))
  | [] => some []
  | (k, .d x) :: fs => (F.purek fs).map ((k, x) :: ·)
  | _ :: _ => none
/-- a tuple's tree: pure where its items are -/
def F.mkT (fs : List F) : F := match F.pures fs with
  | some ds => .d (.tup ds)
  | none => .tup fs

structure Cell where
  cls : Str
  flds : List (Str × F)
abbrev Mem := List Cell
abbrev Env := List (Option R)

inductive Out (α : Type) where
  | ok (a : α) (m : Mem) | exc (c : Str) (m : Mem) | bad
def Out.bind {α β : Type} (x : Out α) (k : α → Mem → Out β) : Out β := match x with
  | .ok a m => k a m
  | .exc c m => .exc c m
  | .bad => .bad
def Out.of {α : Type} (o : Option α) (m : Mem) : Out α := match o with
  | some a => .ok a m
  | none => .bad
abbrev Fn := List R → Mem → Out R

inductive SO where
  | nx (ρ : Env) (m : Mem) | brk (ρ : Env) (m : Mem) | cnt (ρ : Env) (m : Mem) | ret (r : R) (m : Mem) | exc (c : Str) (ρ : Env) (m : Mem) | bad

/-! ### looks at data -/
/-- the pure items of a list -/
def F.isL : F → Option (List D)
  | .d (.lst ds) => some ds
  | .lst fs => F.pures fs
  | _ => none
def F.isT : F → Option (List D)
  | .d (.tup ds) => some ds
  | _ => none
/-- the pure items of a list or a tuple -/
def F.isLT : F → Option (List D)
  | .d (.tup ds) => some ds
  | f => f.isL
/-- items of a list or a tuple, as trees -/
def F.items : F → Option (List F)
  | .d (.lst ds) => some (ds.map .d)
  | .d (.tup ds) => some (ds.map .d)
  | .lst fs => some fs
  | .tup fs => some fs
  | _ => none
def F.isK : F → Option (List (D × D))
  | .d (.dct kvs) => some kvs
  | .dct kfs => F.purek kfs
  | _ => none
/-- a key: an int or a text, or a tuple of such -/
def D.flat : D → Bool
  | .int _ => true
  | .str _ => true
  | _ => false
def D.key : D → Bool
  | .int _ => true
  | .str _ => true
  | .tup ds => ds.all D.flat
  | _ => false
/-- keys of one kind (ints and texts, or tuples) -/
def kindOk {β : Type} (kvs : List (D × β)) (k : D) : Bool := k.key && match kvs with
  | [] => true
  | (j, _) :: _ => j.flat == k.flat
section
variable {β : Type}
def look (kvs : List (D × β)) (k : D) : Option β := match kvs with
  | [] => none
  | (j, y) :: r => if j = k then some y else look r k
def put (kvs : List (D × β)) (k : D) (y : β) : List (D × β) := match kvs with
  | [] => [(k, y)]
  | (j, z) :: r => if j = k then (j, y) :: r else (j, z) :: put r k y
def del (kvs : List (D × β)) (k : D) : List (D × β) := match kvs with
  | [] => []
  | (j, z) :: r => if j = k then r else (j, z) :: del r k
end
def b2i (b : Bool) : Int := if b then 1 else 0
/-! Python's == -/
mutual
def D.eqv : D → D → Bool
  | .non, .non => true
  | .bl a, .bl b => a == b
  | .bl a, .int b => b2i a == b
  | .int a, .bl b => a == b2i b
  | .int a, .int b => a == b
  | .str a, .str b => decide (a = b)
  | .tup a, .tup b => D.eqvs a b
  | .lst a, .lst b => D.eqvs a b
  | _, _ => false
def D.eqvs : List D → List D → Bool
  | [], [] => true
  | a :: as, b :: bs => D.eqv a b && D.eqvs as bs
  | _, _ => false
end
/-! data of scalars, tuples and lists alone, not deep -/
mutual
def D.plain (n : Nat) : D → Bool
  | .non => true
  | .bl _ => true
  | .int _ => true
  | .str _ => true
  | .tup ds => match n with
    | 0 => false
    | n + 1 => D.plains n ds
  | .lst ds => match n with
    | 0 => false
    | n + 1 => D.plains n ds
  | _ => false
def D.plains (n : Nat) : List D → Bool
  | [] => true
  | d :: ds => D.plain n d && D.plains n ds
end

/-! ### operators -/
def sliceD (ds : List D) (lo hi : Option Int) : List D := (ds.drop (HT.sIx ds.length 0 lo)).take (HT.sIx ds.length ds.length hi - HT.sIx ds.length 0 lo)
def sizeB : Nat := 16777216
def opAdd (a b : R) : Option R := match a.f with
  | .d (.int i) => match b.f with
    | .d (.int j) => some (.p (.int (i + j)))
    | _ => none
  | .d (.str x) => match b.f with
    | .d (.str y) => if x.length + y.length ≤ sizeB then some (.p (.str (x ++ y))) else none
    | _ => none
  | .d (.tup x) => match b.f with
    | .d (.tup y) => if x.length + y.length ≤ sizeB then some (.p (.tup (x ++ y))) else none
    | _ => none
  | f => f.isL.bind fun x => b.f.isL.bind fun y => if x.length + y.length ≤ sizeB then some (.v (.lst ((x ++ y).map .d))) else none
def opInt (C : Int → Int → Prop) [∀ i j, Decidable (C i j)] (f : Int → Int → Int) (a b : R) : Option R := match a.f with
  | .d (.int i) => match b.f with
    | .d (.int j) => if C i j then some (.p (.int (f i j))) else none
    | _ => none
  | _ => none
def opMul (a b : R) : Option R := match b.f with
  | .d (.int j) => match a.f with
    | .d (.int i) => if (-(2 ^ 64) < i ∧ i < 2 ^ 64) ∨ (-(2 ^ 64) < j ∧ j < 2 ^ 64) then some (.p (.int (i * j))) else none
    | f => f.isL.bind fun x => if -(2 ^ 63) ≤ j ∧ j < 2 ^ 63 ∧ x.length * j.toNat ≤ sizeB then some (.v (.lst ((List.replicate j.toNat x).flatten.map .d))) else none
  | _ => none
def binS (op : Operator) (a b : R) : Option R := match op with
  | .Add => opAdd a b
  | .Sub => opInt (fun _ _ => True) (fun i j => i - j) a b
  | .Mult => opMul a b
  | .FloorDiv => opInt (fun _ j => 0 < j ∧ j < 2 ^ 200) (fun i j => i / j) a b
  | .Mod => opInt (fun _ j => 0 < j) (fun i j => i % j) a b
  | .Pow => opInt (fun i j => 0 ≤ j ∧ j ≤ 1000000 ∧ i.natAbs < 2 ^ 64) (fun i j => i ^ j.toNat) a b
  | _ => none
def negS (a : R) : Option R := match a.f with
  | .d (.int i) => some (.p (.int (-i)))
  | _ => none
def eqvK (kb : List (D × D)) : List (D × D) → Bool
  | [] => true
  | (k, x) :: r => (match look kb k with | some y => D.eqv x y | none => false) && eqvK kb r
def flatK (ka : List (D × D)) : Bool := ka.all fun p => p.1.flat && p.2.plain 40
def eqS (a b : R) : Option Bool := if a.data.plain 40 && b.data.plain 40 then some (D.eqv a.data b.data) else
  a.f.isK.bind fun ka => b.f.isK.bind fun kb => if flatK ka && flatK kb then some (ka.length == kb.length && eqvK kb ka) else none
def inS (a b : R) : Option Bool := match b.f with
  | .d (.str y) => match a.data with
    | .str x => some (!(Builtin.Str.occurrences y x 0 y.length 1).isEmpty)
    | _ => none
  | f => match f.isLT with
    | some ds => if a.data.plain 40 && D.plains 40 ds then some (ds.any fun z => D.eqv z a.data) else none
    | none => f.isK.bind fun kvs => a.pd.bind fun k => if kindOk kvs k then some (look kvs k).isSome else none
def cmpS (op : CmpOp) (a b : R) : Option Bool := match op with
  | .Eq => eqS a b
  | .NotEq => (eqS a b).map (!·)
  | .In => inS a b
  | .NotIn => (inS a b).map (!·)
  | .Is => if b.data = .non then some (decide (a.data = .non)) else none
  | .IsNot => if b.data = .non then some (!decide (a.data = .non)) else none
  | .Lt => match a.data, b.data with
    | .int i, .int j => some (decide (i < j))
    | .str x, .str y => some (decide (x.cps.toList < y.cps.toList))
    | _, _ => none
  | .LtE => match a.data, b.data with
    | .int i, .int j => some (decide (i ≤ j))
    | _, _ => none
  | .Gt => match a.data, b.data with
    | .int i, .int j => some (decide (j < i))
    | _, _ => none
  | .GtE => match a.data, b.data with
    | .int i, .int j => some (decide (j ≤ i))
    | _, _ => none
def subS (a i : R) : Option R := match a.f with
  | .d (.str x) => match i.data with
    | .int k => if x.length ≤ sizeB then (atI x.cps.toList k).map fun c => .p (.str ⟨#[c]⟩) else none
    | _ => none
  | f => match f.isLT with
    | some ds => match i.data with
      | .int k => (atI ds k).map .p
      | _ => none
    | none => f.isK.bind fun kvs => i.pd.bind fun k => if kindOk kvs k then (look kvs k).map .p else none
def sliceS (a : R) (lo hi : Option Int) : Option R := match a.f with
  | .d (.str x) => if x.length ≤ sizeB then some (.p (.str (cutS x lo hi))) else none
  | .d (.tup ds) => some (.p (.tup (sliceD ds lo hi)))
  | f => f.isL.map fun ds => .v (.lst ((sliceD ds lo hi).map .d))

/-- x[::-1], x[:0:-1] -/
def revT (z : Str) (b : Bool) : Str := ⟨((Builtin.Str.strSliceIndices none (if b then some 0 else none) (-1) z.length).filterMap (z.cps[·]?)).toArray⟩
def revS (b : Bool) (r : R) : Option R := match r.f with
  | .d (.str z) => if z.length ≤ sizeB then some (.p (.str (revT z b))) else none
  | f => if b then none else f.isL.map fun ds => .v (.lst (ds.reverse.map .d))
/-! ### built-ins -/
inductive Bi where
  | len | int | str | abs | min | max | min2 | max2 | sum | all | any | list | tuple | dict
  deriving DecidableEq
def Bi.name : Bi → Str
  | .len => "len" | .int => "int" | .str => "str" | .abs => "abs" | .min => "min" | .max => "max" | .min2 => "min" | .max2 => "max" | .sum => "sum" | .all => "all" | .any => "any"
  | .list => "list" | .tuple => "tuple" | .dict => "dict"
def intsD : List D → Option (List Int)
  | [] => some []
  | .int i :: ds => (intsD ds).map (i :: ·)
  | _ :: _ => none
def blsD : List D → Option (List Bool)
  | [] => some []
  | .bl i :: ds => (blsD ds).map (i :: ·)
  | _ :: _ => none
def strsD : List D → Option (List Str)
  | [] => some []
  | .str i :: ds => (strsD ds).map (i :: ·)
  | _ :: _ => none
def maxI : List Int → Int
  | [] => 0
  | [x] => x
  | x :: r => max x (maxI r)
def minI : List Int → Int
  | [] => 0
  | [x] => x
  | x :: r => min x (minI r)
/-- all are to be kept -/
def R.allv (rs : List R) : Bool := rs.all fun r => match r with
  | .v _ => true
  | .w _ => false
def sem1 {α : Type} (f : R → Option α) (rs : List R) : Option α := match rs with
  | [a] => f a
  | _ => none
def sem2 {α : Type} (f : R → R → Option α) (rs : List R) : Option α := match rs with
  | [a, b] => f a b
  | _ => none
def lenS (r : R) : Option R := match r.f with
  | .d (.str x) => if x.length ≤ sizeB then some (.p (.int x.length)) else none
  | f => match f.isLT with
    | some ds => some (.p (.int ds.length))
    | none => match f with
      | .lst fs => some (.p (.int fs.length))
      | f => f.isK.map fun kvs => .p (.int kvs.length)
def intS (r : R) : Option R := match r.f with
  | .d (.int i) => some (.p (.int i))
  | .d (.bl b) => some (.p (.int (b2i b)))
  | _ => none
def absS (r : R) : Option R := match r.f with
  | .d (.int i) => some (.p (.int (if i < 0 then -i else i)))
  | _ => none
def strS (r : R) : Option R := match r.f with
  | .d (.int i) => if i.natAbs.log2 < 1920 then some (.p (.str (Str.ofString (toString i)))) else none
  | .d (.str x) => some (.p (.str x))
  | _ => none
def max2S (r q : R) : Option R := match r.f, q.f with
  | .d (.int i), .d (.int j) => some (.p (.int (if j > i then j else i)))
  | _, _ => none
def min2S (r q : R) : Option R := match r.f, q.f with
  | .d (.int i), .d (.int j) => some (.p (.int (if j < i then j else i)))
  | _, _ => none
def max1S (r : R) : Option R := (r.f.isL.bind intsD).bind fun ns => if ns = [] then none else some (.p (.int (maxI ns)))
def min1S (r : R) : Option R := (r.f.isL.bind intsD).bind fun ns => if ns = [] then none else some (.p (.int (minI ns)))
def sumS (r : R) : Option R := (r.f.isL.bind intsD).map fun ns => .p (.int ns.sum)
def allS (r : R) : Option R := (r.f.isL.bind blsD).map fun bs => .p (.bl (bs.all id))
def anyS (r : R) : Option R := (r.f.isL.bind blsD).map fun bs => .p (.bl (bs.any id))
def keysK (kvs : List (D × D)) : List D := kvs.map (·.1)
def listS (r : R) : Option R := match r.f.isLT with
  | some ds => some (.v (.lst (ds.map .d)))
  | none => r.f.isK.map fun kvs => .v (.lst ((keysK kvs).map .d))
def tupleS (r : R) : Option R := r.f.isLT.map fun ds => .p (.tup ds)
def dictS (r : R) : Option R := r.f.isK.bind fun kvs => if kvs.all fun p => p.1.flat then some (.v (.dct (kvs.map fun kv => (kv.1, .d kv.2)))) else none
def biS (b : Bi) : List R → Option R := match b with
  | .len => sem1 lenS
  | .int => sem1 intS
  | .str => sem1 strS
  | .abs => sem1 absS
  | .min => sem1 min1S
  | .max => sem1 max1S
  | .min2 => sem2 min2S
  | .max2 => sem2 max2S
  | .sum => sem1 sumS
  | .all => sem1 allS
  | .any => sem1 anyS
  | .list => sem1 listS
  | .tuple => sem1 tupleS
  | .dict => sem1 dictS
inductive Ty where
  | int | str | bool | tuple | list | dict
  deriving DecidableEq
def Ty.name : Ty → String
  | .int => "int" | .str => "str" | .bool => "bool" | .tuple => "tuple" | .list => "list" | .dict => "dict"
def isiS (t : Ty) (r : R) : Option Bool := match r.data with
  | .non => some false
  | .bl _ => some (t == .bool || t == .int)
  | .int _ => some (t == .int)
  | .str _ => some (t == .str)
  | .tup _ => some (t == .tuple)
  | .lst _ => some (t == .list)
  | .dct _ => some (t == .dict)
  | .obj _ => none
  | .scr _ => none
/-- methods of built-in types that change nothing -/
inductive Mt where
  | join | get1 | get2
  deriving DecidableEq
def Mt.name : Mt → Str
  | .join => "join" | .get1 => "get" | .get2 => "get"
def joinS (o r : R) : Option R := match o.f with
  | .d (.str a) => (r.f.isLT.bind strsD).bind fun (ys : List Str) => if (ys.map (·.length)).sum + ys.length * a.length ≤ sizeB then some (.p (.str (Txt.join a ys))) else none
  | _ => none
def get1S (o k : R) : Option R := o.f.isK.bind fun kvs => k.pd.bind fun k => if kindOk kvs k then some (.p ((look kvs k).getD .non)) else none
def get2S (o k x : R) : Option R := o.f.isK.bind fun kvs => k.pd.bind fun k => x.pd.bind fun y => if kindOk kvs k then some (.p ((look kvs k).getD y)) else none
def sem3 {α : Type} (f : R → R → R → Option α) (rs : List R) : Option α := match rs with
  | [a, b, c] => f a b c
  | _ => none
/-- the receiver is of the method's type -/
def mtT (m : Mt) (o : R) : Bool := match m with
  | .join => match o.f with
    | .d (.str _) => true
    | _ => false
  | .get1 => o.f.isK.isSome
  | .get2 => o.f.isK.isSome
/-- the receiver first -/
def mtS (m : Mt) : List R → Option R := match m with
  | .join => sem2 joinS
  | .get1 => sem2 get1S
  | .get2 => sem3 get2S

/-! ### the language -/
inductive Src where
  | plain | range1 | range2 | range3 | enum | zip | items | values
  deriving DecidableEq
inductive Tg where
  | nm (i : Nat) | tp (is : List Nat)
  deriving DecidableEq
/-- no: an absent part of a slice, an absent test -/
inductive E where
  | no | var (i : Nat) | cst (x : D) | glb (x : Str) (d : D)
  | bin (op : Operator) (a b : E) | neg (a : E) | not (a : E) | cmp (op : CmpOp) (a b : E) | cmp2 (op op' : CmpOp) (a b c : E)
  | and (a b : E) | or (a b : E) | ifx (c a b : E)
  | sub (a i : E) | slice (a lo hi : E) | rev (b : Bool) (a : E)
  | tup (es : E) | lst (es : E) | dnew
  | call (x : Str) (f : Fn) (es : E)
  | bi (b : Bi) (es : E) | isi (a : E) (t : Ty) | mth (m : Mt) (o : E) (es : E)
  | comp (elt : E) (tg : Tg) (k : Src) (es : E) (cond : E) (own : List (Str × Nat))
  | frz (e : E)
  | cons (e es : E)
inductive S where
  | skip | seq (s t : S)
  | expr (e : E) | asg (i : Nat) (e : E) | asgv (i j : Nat) | asgT (is : List Nat) (e : E)
  | ifs (c : E) (s t : S) | for (tg : Tg) (k : Src) (es : E) (body : S) | forw (tg : Tg) (i : Nat) (body : S) | while (c : E) (body : S)
  | ret (e : E) | retv (i : Nat) | ret0 | brk | cnt
  | append (i : Nat) (e : E) | extend (i : Nat) (e : E) | put (i : Nat) (k e : E) | puti (i : Nat) (k e : E)
  | frz (i : Nat)
  | raise (c : Str)

def isTr (r : R) : Option Bool := match r.f with
  | .d (.bl b) => some b
  | _ => none
def setE (ρ : Env) (i : Nat) (r : R) : Option Env := if i < ρ.length then some (ρ.set i (some r)) else none
def setSl : List Nat → List D → Env → Option Env
  | [], [], ρ => some ρ
  | i :: is, d :: ds, ρ => (setE ρ i (.p d)).bind (setSl is ds)
  | _, _, _ => none
def setTg (t : Tg) (x : D) (ρ : Env) : Option Env := match t with
  | .nm i => setE ρ i (.p x)
  | .tp is => match x with
    | .tup ds => setSl is ds ρ
    | _ => none
def wipeR (ρ : Env) : List Nat → Env
  | [] => ρ
  | v :: vs => (wipeR ρ vs).set v none
def signs (x : Str) : List D := x.cps.toList.map fun c => .str ⟨#[c]⟩
def inR (i : Int) : Bool := decide (-(2 ^ 62) ≤ i ∧ i < 2 ^ 62)
def rangeD (i : Int) : Nat → List D
  | 0 => []
  | n + 1 => .int i :: rangeD (i + 1) n
def enumD (i : Int) : List D → List D
  | [] => []
  | d :: ds => .tup [.int i, d] :: enumD (i + 1) ds
def zipD : List D → List D → List D
  | a :: as, b :: bs => .tup [a, b] :: zipD as bs
  | _, _ => []
/-- what is walked -/
def plainS (r : R) : Option (List D) := match r.f with
  | .d (.str x) => if x.length ≤ sizeB then some (signs x) else none
  | f => f.isLT
def rangeS (i j : Int) : Option (List D) := if inR i && inR j && decide ((j - i).toNat ≤ sizeB) then some (rangeD i (j - i).toNat) else none
def range1S (r : R) : Option (List D) := match r.f with
  | .d (.int j) => rangeS 0 j
  | _ => none
def range2S (r q : R) : Option (List D) := match r.f, q.f with
  | .d (.int i), .d (.int j) => rangeS i j
  | _, _ => none
def rangeC (i c : Int) : Nat → List D
  | 0 => []
  | n + 1 => .int i :: rangeC (i + c) c n
/-- a range with a small step -/
def range3S (r q t : R) : Option (List D) := match r.f, q.f, t.f with
  | .d (.int i), .d (.int j), .d (.int c) => if c ≠ 0 ∧ c.natAbs < 1073741824 ∧ Builtin.Range.small i j c = true ∧ 0 ≤ Builtin.Range.rangeSize i j c ∧ Builtin.Range.rangeSize i j c ≤ sizeB then some (rangeC i c (Builtin.Range.rangeSize i j c).toNat) else none
  | _, _, _ => none
def enumS (r : R) : Option (List D) := r.f.isL.map (enumD 0)
def zipS (r q : R) : Option (List D) := match r.f.isT with
  | some as => q.f.isT.map (zipD as)
  | none => r.f.isL.bind fun as => q.f.isL.map (zipD as)
def srcS (k : Src) : List R → Option (List D) := match k with
  | .plain => sem1 plainS
  | .range1 => sem1 range1S
  | .range2 => sem2 range2S
  | .range3 => sem3 range3S
  | .enum => sem1 enumS
  | .zip => sem2 zipS
  | .items => fun _ => none
  | .values => fun _ => none
/-- the data that a walk serves; b: its lists are to be kept -/
def srcO (b : Bool) (k : Src) (o : Out (List R)) : Out (List D) := o.bind fun rs m => .of (if b && !R.allv rs then none else srcS k rs) m
/-- a comprehension's turns -/
def compL (test : Env → Mem → Out Bool) (elt : Env → Mem → Out R) (tg : Tg) (ρ : Env) : List D → Mem → Out (List F)
  | [], m => .ok [] m
  | x :: xs, m => match setTg tg x ρ with
    | none => .bad
    | some ρ1 => (test ρ1 m).bind fun b m1 =>
      if b then (elt ρ1 m1).bind fun r m2 => match r with
        | .v f => (compL test elt tg ρ xs m2).bind fun fs m3 => .ok (f :: fs) m3
        | .w _ => .bad
      else compL test elt tg ρ xs m1
/-- nothing is raised out of a comprehension -/
def Out.calm {α : Type} : Out α → Out α
  | .exc _ _ => .bad
  | o => o
/-- a part of a slice -/
def part (e : E) (o : Out R) : Out (Option Int) := match e with
  | .no => o.bind fun _ m => .ok none m
  | _ => o.bind fun r m => match r.f with
    | .d (.int i) => .ok (some i) m
    | _ => .bad
/-- a comprehension's test -/
def tst (e : E) (o : Out R) : Out Bool := match e with
  | .no => o.bind fun _ m => .ok true m
  | _ => o.bind fun x m => .of (isTr x) m
mutual
def ev : E → Env → Mem → Out R
  | .no, _, m => .ok (.p .non) m
  | .var i, ρ, m => match ρ[i]? with
    | some (some (.v (.d x))) => .ok (.p x) m
    | some (some (.v f)) => .ok (.w f) m
    | some (some (.w f)) => .ok (.w f) m
    | _ => .bad
  | .cst x, _, m => .ok (.p x) m
  | .glb _ x, _, m => .ok (.p x) m
  | .bin op a b, ρ, m => (ev a ρ m).bind fun x m1 => (ev b ρ m1).bind fun y m2 => .of (binS op x y) m2
  | .neg a, ρ, m => (ev a ρ m).bind fun x m1 => .of (negS x) m1
  | .not a, ρ, m => (ev a ρ m).bind fun x m1 => .of ((isTr x).map fun b => .p (.bl (!b))) m1
  | .cmp op a b, ρ, m => (ev a ρ m).bind fun x m1 => (ev b ρ m1).bind fun y m2 => .of ((cmpS op x y).map fun b => .p (.bl b)) m2
  | .cmp2 op op' a b c, ρ, m => (ev a ρ m).bind fun x m1 => (ev b ρ m1).bind fun y m2 => match y.pd with
    | none => .bad
    | some d => match cmpS op x (.p d) with
      | some true => (ev c ρ m2).bind fun z m3 => .of ((cmpS op' (.p d) z).map fun b => .p (.bl b)) m3
      | some false => .ok (.p (.bl false)) m2
      | none => .bad
  | .and a b, ρ, m => (ev a ρ m).bind fun x m1 => match isTr x with
    | some true => ev b ρ m1
    | some false => .ok (.p (.bl false)) m1
    | none => .bad
  | .or a b, ρ, m => (ev a ρ m).bind fun x m1 => match isTr x with
    | some true => .ok (.p (.bl true)) m1
    | some false => ev b ρ m1
    | none => .bad
  | .ifx c a b, ρ, m => (ev c ρ m).bind fun x m1 => match isTr x with
    | some true => ev a ρ m1
    | some false => ev b ρ m1
    | none => .bad
  | .sub a i, ρ, m => (ev a ρ m).bind fun x m1 => (ev i ρ m1).bind fun y m2 => .of (subS x y) m2
  | .slice a lo hi, ρ, m => (ev a ρ m).bind fun x m1 => (part lo (ev lo ρ m1)).bind fun l m2 => (part hi (ev hi ρ m2)).bind fun h m3 => .of (sliceS x l h) m3
  | .rev b a, ρ, m => (ev a ρ m).bind fun x m1 => .of (revS b x) m1
  | .tup es, ρ, m => (evs es ρ m).bind fun rs m1 => .of ((R.vals rs).map fun fs => .v (F.mkT fs)) m1
  | .lst es, ρ, m => (evs es ρ m).bind fun rs m1 => .of ((R.vals rs).map fun fs => .v (.lst fs)) m1
  | .dnew, _, m => .ok (.v (.dct [])) m
  | .call _ f es, ρ, m => (evs es ρ m).bind fun rs m1 => f rs m1
  | .bi b es, ρ, m => (evs es ρ m).bind fun rs m1 => .of (biS b rs) m1
  | .isi a t, ρ, m => (ev a ρ m).bind fun x m1 => .of ((isiS t x).map fun b => .p (.bl b)) m1
  | .mth k o es, ρ, m => (ev o ρ m).bind fun x m1 => if mtT k x then (evs es ρ m1).bind fun rs m2 => .of (mtS k (x :: rs)) m2 else .bad
  | .comp elt tg k es c own, ρ, m => (srcO false k (evs es ρ m)).bind fun ds m1 =>
    (compL (fun ρ' m' => (tst c (ev c ρ' m')).calm) (fun ρ' m' => (ev elt ρ' m').calm) tg (wipeR ρ (own.map (·.2))) ds m1).bind fun fs m2 => if fs.length ≤ sizeB then .ok (.v (.lst fs)) m2 else .bad
  | .frz e, ρ, m => (ev e ρ m).bind fun x m1 => match x with
    | .v f => .ok (.p f.data) m1
    | .w _ => .bad
  | .cons _ _, _, _ => .bad
def evs : E → Env → Mem → Out (List R)
  | .no, _, m => .ok [] m
  | .cons e es, ρ, m => (ev e ρ m).bind fun r m1 => (evs es ρ m1).bind fun rs m2 => .ok (r :: rs) m2
  | _, _, _ => .bad
end
def forL (body : Env → Mem → SO) (tg : Tg) : List D → Env → Mem → SO
  | [], ρ, m => .nx ρ m
  | x :: xs, ρ, m => match setTg tg x ρ with
    | none => .bad
    | some ρ1 => match body ρ1 m with
      | .nx ρ2 m2 => forL body tg xs ρ2 m2
      | .cnt ρ2 m2 => forL body tg xs ρ2 m2
      | .brk ρ2 m2 => .nx ρ2 m2
      | o => o
def whileL (c : Env → Mem → Out R) (body : Env → Mem → SO) : Nat → Env → Mem → SO
  | 0, _, _ => .bad
  | n + 1, ρ, m => match c ρ m with
    | .bad => .bad
    | .exc e m1 => .exc e ρ m1
    | .ok r m1 => match isTr r with
      | none => .bad
      | some false => .nx ρ m1
      | some true => match body ρ m1 with
        | .nx ρ2 m2 => whileL c body n ρ2 m2
        | .cnt ρ2 m2 => whileL c body n ρ2 m2
        | .brk ρ2 m2 => .nx ρ2 m2
        | o => o
def Out.so {α : Type} (x : Out α) (ρ : Env) (k : α → Mem → SO) : SO := match x with
  | .ok a m => k a m
  | .exc c m => .exc c ρ m
  | .bad => .bad
/-- an assignment -/
def setSO (ρ : Env) (i : Nat) (r : R) (m : Mem) : SO := match setE ρ i r with
  | some ρ1 => .nx ρ1 m
  | none => .bad
def extS (r : R) : Option (List F) := match r with
  | .v (.lst gs) => some gs
  | q => q.f.isL.map fun ds => ds.map .d
def ex (fu : Nat) : S → Env → Mem → SO
  | .skip, ρ, m => .nx ρ m
  | .seq s t, ρ, m => match ex fu s ρ m with
    | .nx ρ1 m1 => ex fu t ρ1 m1
    | o => o
  | .expr e, ρ, m => (ev e ρ m).so ρ fun _ m1 => .nx ρ m1
  | .asg i e, ρ, m => (ev e ρ m).so ρ fun r m1 => match r with
    | .v f => setSO ρ i (.v f) m1
    | .w _ => .bad
  | .asgv i j, ρ, m => match ρ[j]? with
    | some (some (.v f)) => setSO (ρ.set j none) i (.v f) m
    | _ => .bad
  | .asgT is e, ρ, m => (ev e ρ m).so ρ fun r m1 => match r with
    | .v f => (match f.isT with
      | some ds => (match setSl is ds ρ with | some ρ1 => .nx ρ1 m1 | none => .bad)
      | none => .bad)
    | .w _ => .bad
  | .ifs c s t, ρ, m => (ev c ρ m).so ρ fun r m1 => match isTr r with
    | some true => ex fu s ρ m1
    | some false => ex fu t ρ m1
    | none => .bad
  | .for tg k es body, ρ, m => (srcO true k (evs es ρ m)).so ρ fun ds m1 => forL (ex fu body) tg ds ρ m1
  | .forw tg i body, ρ, m => match ρ[i]? with
    | some (some (.w f)) => (match plainS (.w f) with | some ds => forL (ex fu body) tg ds ρ m | none => .bad)
    | _ => .bad
  | .while c body, ρ, m => whileL (ev c) (ex fu body) fu ρ m
  | .ret e, ρ, m => (ev e ρ m).so ρ fun r m1 => match r with
    | .v f => .ret (.v f) m1
    | .w _ => .bad
  | .retv i, ρ, m => match ρ[i]? with
    | some (some (.v f)) => .ret (.v f) m
    | _ => .bad
  | .ret0, _, m => .ret (.p .non) m
  | .brk, ρ, m => .brk ρ m
  | .cnt, ρ, m => .cnt ρ m
  | .append i e, ρ, m => match ρ[i]? with
    | some (some (.v (.lst fs))) => (ev e ρ m).so ρ fun r m1 => match r with
      | .v f => if fs.length < sizeB then .nx (ρ.set i (some (.v (.lst (fs ++ [f]))))) m1 else .bad
      | .w _ => .bad
    | _ => .bad
  | .extend i e, ρ, m => match ρ[i]? with
    | some (some (.v (.lst fs))) => (ev e ρ m).so ρ fun r m1 => match extS r with
      | some gs => if fs.length + gs.length ≤ sizeB then .nx (ρ.set i (some (.v (.lst (fs ++ gs))))) m1 else .bad
      | none => .bad
    | _ => .bad
  | .put i k e, ρ, m => (ev e ρ m).so ρ fun r m1 => match r with
    | .v f => (match ρ[i]? with
      | some (some (.v (.dct kfs))) => (ev k ρ m1).so ρ fun q m2 => (match q.pd with
        | some k => if kindOk kfs k && decide (kfs.length < sizeB) then .nx (ρ.set i (some (.v (.dct (VS.put kfs k f))))) m2 else .bad
        | none => .bad)
      | _ => .bad)
    | .w _ => .bad
  | .puti i k e, ρ, m => (ev e ρ m).so ρ fun r m1 => match r with
    | .v f => (match ρ[i]? with
      | some (some (.v (.lst fs))) => (ev k ρ m1).so ρ fun q m2 => (match q.data with
        | .int j => (match ixN fs.length j with
          | some n => .nx (ρ.set i (some (.v (.lst (fs.set n f))))) m2
          | none => .bad)
        | _ => .bad)
      | _ => .bad)
    | .w _ => .bad
  | .frz i, ρ, m => match ρ[i]? with
    | some (some (.v f)) => .nx (ρ.set i (some (.p f.data))) m
    | some (some (.w _)) => .nx ρ m
    | _ => .bad
  | .raise c, ρ, m => .exc c ρ m
/-- (script[k:k + 1] + [0])[0] -/
def accF : Fn := fun rs m => match rs with
  | [r, q] => match r.f, q.f with
    | .d (.scr ns), .d (.int k) => if 0 ≤ k then .ok (.p (.int (ns.getD k.toNat 0))) m else .bad
    | _, _ => .bad
  | _ => .bad
/-- a def: its slots, its body -/
def run (fu : Nat) (n : Nat) (body : S) (ps : Nat) (rs : List R) (m : Mem) : Out R :=
  if rs.length = ps then (match ex fu body (rs.map some ++ List.replicate (n - rs.length) none) m with
    | .ret r m1 => .ok r m1
    | .nx _ m1 => .ok (.p .non) m1
    | .exc c _ m1 => .exc c m1
    | _ => .bad) else .bad
def runX (so : SO) : Out R := match so with
  | .ret r m1 => .ok r m1
  | .nx _ m1 => .ok (.p .non) m1
  | .exc c _ m1 => .exc c m1
  | _ => .bad
theorem run_pos {fu n ps : Nat} {body : S} {rs : List R} {m : Mem} (h : rs.length = ps) : run fu n body ps rs m = runX (ex fu body (rs.map some ++ List.replicate (n - rs.length) none) m) := if_pos h
theorem run_neg {fu n ps : Nat} {body : S} {rs : List R} {m : Mem} (h : ¬ rs.length = ps) : run fu n body ps rs m = .bad := if_neg h
end VS

namespace VS
example : ev (.cst (.int 3)) [] [] = .ok (.p (.int 3)) [] := rfl
example : ev (.bin .Add (.cst (.int 3)) (.var 0)) [some (.p (.int 4))] [] = .ok (.p (.int 7)) [] := rfl
end VS

/-! VSc: how data stands in the abstract heap. -/
namespace VS
open PySem L2

/-- what is known beside the heap: B the frozen part, as the cells' addresses -/
structure Aux where
  l : List Addr
  K : PySem.W.Frag
structure Gh where
  B : Hp
  as : Aux
/-- the classes' addresses -/
structure Cl where
  f : Str → Option Addr
  K : PySem.W.Frag
instance : CoeFun Cl (fun _ => Str → Option Addr) := ⟨Cl.f⟩
/-- a list of the module's own -/
def KL (K : PySem.W.Frag) (a : Addr) (xs : List V) : Prop := ∃ (o : Obj) (its : Array Value) (n : Nat), K.lookup a = some o ∧ o.cls = .type "list" ∧ o.dict = none ∧ o.data = .seq its n ∧ its.size ≤ sizeLine ∧ Vals xs its.toList
structure Gh.le (g g' : Gh) : Prop where
  b : ∀ a o, g.B a = some o → g'.B a = some o
  a : ∀ (n : Nat) (x : Addr), g.as.l[n]? = some x → g'.as.l[n]? = some x
  k : g.as.K = g'.as.K
theorem Gh.le.refl (g : Gh) : g.le g := ⟨fun _ _ h => h, fun _ _ h => h, rfl⟩
theorem Gh.le.trans {a b c : Gh} (h : a.le b) (k : b.le c) : a.le c := ⟨fun x o e => k.b x o (h.b x o e), fun n x e => k.a n x (h.a n x e), h.k.trans k.k⟩
def Gh.put (g : Gh) (a : Addr) (o : HO) : Gh := ⟨upd g.B a o, g.as⟩
theorem Gh.le.put {g : Gh} {a : Addr} {o : HO} (k : ∀ b u, g.B b = some u → upd g.B a o b = some u) : g.le (g.put a o) := ⟨k, fun _ _ e => e, rfl⟩
theorem Gh.put_at {g : Gh} {a : Addr} {o : HO} : (g.put a o).B a = some o := upd_same
def kD : Key → D
  | .inl i => .int i
  | .inr x => .str x
def tD (ks : List Key) : D := .tup (ks.map kD)
theorem kD_inj : ∀ {a b : Key}, kD a = kD b → a = b
  | .inl a, .inl b, h => by simp [kD] at h; rw [h]
  | .inr a, .inr b, h => by simp [kD] at h; rw [h]
  | .inl a, .inr b, h => by simp [kD] at h
  | .inr a, .inl b, h => by simp [kD] at h
theorem kDs_inj : ∀ {a b : List Key}, a.map kD = b.map kD → a = b
  | [], [], _ => rfl
  | [], _ :: _, h => by simp at h
  | _ :: _, [], h => by simp at h
  | x :: xs, y :: ys, h => by
    simp only [List.map_cons, List.cons.injEq] at h
    rw [kD_inj h.1, kDs_inj h.2]
theorem tD_inj {a b : List Key} (h : tD a = tD b) : a = b := by
  unfold tD at h
  injection h with h
  exact kDs_inj h
mutual
def Rep (g : Gh) : D → V → Prop
  | .non, v => v = .non
  | .bl b, v => v = .bl b
  | .int i, v => v = .int i
  | .str x, v => v = .str x
  | .tup ds, v => ∃ a xs, v = .ref a ∧ g.B a = some (.tup xs) ∧ Reps g ds xs
  | .lst ds, v => ∃ a xs, v = .ref a ∧ Rd g.B a (.lst xs) ∧ Reps g ds xs
  | .dct kvs, v => ∃ a, v = .ref a ∧ ((∃ es, Rd g.B a (.dK es) ∧ RepK g kvs es) ∨ ∃ es, Rd g.B a (.dT es) ∧ RepT g kvs es)
  | .obj n, v => ∃ a, g.as.l[n]? = some a ∧ v = .ref a
  | .scr ns, v => ∃ a, v = .ref a ∧ (Rd g.B a (.lst (ns.map V.int)) ∨ KL g.as.K a (ns.map V.int))
def Reps (g : Gh) : List D → List V → Prop
  | [], xs => xs = []
  | d :: ds, xs => ∃ x r, xs = x :: r ∧ Rep g d x ∧ Reps g ds r
def RepK (g : Gh) : List (D × D) → List (Key × V) → Prop
  | [], es => es = []
  | (k, d) :: ds, es => ∃ j y t, es = (j, y) :: t ∧ k = kD j ∧ Rep g d y ∧ RepK g ds t
def RepT (g : Gh) : List (D × D) → List (List Key × V) → Prop
  | [], es => es = []
  | (k, d) :: ds, es => ∃ j y t, es = (j, y) :: t ∧ k = tD j ∧ Rep g d y ∧ RepT g ds t
end
theorem Rd.mono {B B' : Hp} (h : ∀ a o, B a = some o → B' a = some o) {a : Addr} {u : HO} (r : Rd B a u) : Rd B' a u := by
  rcases r with r | ⟨o, r⟩
  · exact .inl (h _ _ r)
  · exact .inr ⟨o, h _ _ r⟩
mutual
theorem Rep.mono {g g' : Gh} (h : g.le g') : ∀ (d : D) (v : V), Rep g d v → Rep g' d v
  | .non, v, r => r
  | .bl b, v, r => r
  | .int i, v, r => r
  | .str x, v, r => r
  | .tup ds, v, r => by
    simp only [Rep] at r ⊢
    obtain ⟨a, xs, e, hb, q⟩ := r
    exact ⟨a, xs, e, h.b _ _ hb, Reps.mono h ds xs q⟩
  | .lst ds, v, r => by
    simp only [Rep] at r ⊢
    obtain ⟨a, xs, e, hb, q⟩ := r
    exact ⟨a, xs, e, Rd.mono h.b hb, Reps.mono h ds xs q⟩
  | .dct kvs, v, r => by
    simp only [Rep] at r ⊢
    obtain ⟨a, e, ⟨es, hb, q⟩ | ⟨es, hb, q⟩⟩ := r
    · exact ⟨a, e, .inl ⟨es, Rd.mono h.b hb, RepK.mono h kvs es q⟩⟩
    · exact ⟨a, e, .inr ⟨es, Rd.mono h.b hb, RepT.mono h kvs es q⟩⟩
  | .obj n, v, r => by
    simp only [Rep] at r ⊢
    obtain ⟨a, e, q⟩ := r
    exact ⟨a, h.a _ _ e, q⟩
  | .scr ns, v, r => by
    simp only [Rep] at r ⊢
    obtain ⟨a, e, q⟩ := r
    exact ⟨a, e, q.imp (Rd.mono h.b) fun q => h.k ▸ q⟩
theorem Reps.mono {g g' : Gh} (h : g.le g') : ∀ (ds : List D) (vs : List V), Reps g ds vs → Reps g' ds vs
  | [], vs, r => r
  | d :: ds, vs, r => by
    simp only [Reps] at r ⊢
    obtain ⟨x, t, e, q1, q2⟩ := r
    exact ⟨x, t, e, Rep.mono h d x q1, Reps.mono h ds t q2⟩
theorem RepK.mono {g g' : Gh} (h : g.le g') : ∀ (ds : List (D × D)) (vs : List (Key × V)), RepK g ds vs → RepK g' ds vs
  | [], vs, r => r
  | (k, d) :: ds, vs, r => by
    simp only [RepK] at r ⊢
    obtain ⟨j, y, t, e, e2, q1, q2⟩ := r
    exact ⟨j, y, t, e, e2, Rep.mono h d y q1, RepK.mono h ds t q2⟩
theorem RepT.mono {g g' : Gh} (h : g.le g') : ∀ (ds : List (D × D)) (vs : List (List Key × V)), RepT g ds vs → RepT g' ds vs
  | [], vs, r => r
  | (k, d) :: ds, vs, r => by
    simp only [RepT] at r ⊢
    obtain ⟨j, y, t, e, e2, q1, q2⟩ := r
    exact ⟨j, y, t, e, e2, Rep.mono h d y q1, RepT.mono h ds t q2⟩
end

/-- from one frozen heap to one in which all of it may be read -/
structure Gh.Sees (g g' : Gh) : Prop where
  t : ∀ a xs, g.B a = some (.tup xs) → g'.B a = some (.tup xs)
  l : ∀ a xs, Rd g.B a (.lst xs) → Rd g'.B a (.lst xs)
  k : ∀ a xs, Rd g.B a (.dK xs) → Rd g'.B a (.dK xs)
  T : ∀ a xs, Rd g.B a (.dT xs) → Rd g'.B a (.dT xs)
  a : ∀ (n : Nat) (x : Addr), g.as.l[n]? = some x → g'.as.l[n]? = some x
  kk : g.as.K = g'.as.K
mutual
theorem Rep.see {g g' : Gh} (h : g.Sees g') : ∀ (d : D) (v : V), Rep g d v → Rep g' d v
  | .non, v, r => r
  | .bl b, v, r => r
  | .int i, v, r => r
  | .str x, v, r => r
  | .tup ds, v, r => by
    simp only [Rep] at r ⊢
    obtain ⟨a, xs, e, hb, q⟩ := r
    exact ⟨a, xs, e, h.t _ _ hb, Reps.see h ds xs q⟩
  | .lst ds, v, r => by
    simp only [Rep] at r ⊢
    obtain ⟨a, xs, e, hb, q⟩ := r
    exact ⟨a, xs, e, h.l _ _ hb, Reps.see h ds xs q⟩
  | .dct kvs, v, r => by
    simp only [Rep] at r ⊢
    obtain ⟨a, e, ⟨es, hb, q⟩ | ⟨es, hb, q⟩⟩ := r
    · exact ⟨a, e, .inl ⟨es, h.k _ _ hb, RepK.see h kvs es q⟩⟩
    · exact ⟨a, e, .inr ⟨es, h.T _ _ hb, RepT.see h kvs es q⟩⟩
  | .obj n, v, r => by
    simp only [Rep] at r ⊢
    obtain ⟨a, e, q⟩ := r
    exact ⟨a, h.a _ _ e, q⟩
  | .scr ns, v, r => by
    simp only [Rep] at r ⊢
    obtain ⟨a, e, q⟩ := r
    exact ⟨a, e, q.imp (h.l _ _) fun q => h.kk ▸ q⟩
theorem Reps.see {g g' : Gh} (h : g.Sees g') : ∀ (ds : List D) (vs : List V), Reps g ds vs → Reps g' ds vs
  | [], vs, r => r
  | d :: ds, vs, r => by
    simp only [Reps] at r ⊢
    obtain ⟨x, t, e, q1, q2⟩ := r
    exact ⟨x, t, e, Rep.see h d x q1, Reps.see h ds t q2⟩
theorem RepK.see {g g' : Gh} (h : g.Sees g') : ∀ (ds : List (D × D)) (vs : List (Key × V)), RepK g ds vs → RepK g' ds vs
  | [], vs, r => r
  | (k, d) :: ds, vs, r => by
    simp only [RepK] at r ⊢
    obtain ⟨j, y, t, e, e2, q1, q2⟩ := r
    exact ⟨j, y, t, e, e2, Rep.see h d y q1, RepK.see h ds t q2⟩
theorem RepT.see {g g' : Gh} (h : g.Sees g') : ∀ (ds : List (D × D)) (vs : List (List Key × V)), RepT g ds vs → RepT g' ds vs
  | [], vs, r => r
  | (k, d) :: ds, vs, r => by
    simp only [RepT] at r ⊢
    obtain ⟨j, y, t, e, e2, q1, q2⟩ := r
    exact ⟨j, y, t, e, e2, Rep.see h d y q1, RepT.see h ds t q2⟩
end

abbrev PL := List (Addr × HO)
mutual
def Own (g : Gh) : F → V → PL → Prop
  | .d x, v, l => l = [] ∧ Rep g x v
  | .lst fs, v, l => ∃ a xs ls, v = .ref a ∧ l = (a, .lst xs) :: ls ∧ Owns g fs xs ls
  | .tup fs, v, l => ∃ a xs, v = .ref a ∧ g.B a = some (.tup xs) ∧ Owns g fs xs l
  | .dct kfs, v, l => ∃ a ls, v = .ref a ∧ ((∃ es, l = (a, .dK es) :: ls ∧ OwnK g kfs es ls) ∨ ∃ es, l = (a, .dT es) :: ls ∧ OwnT g kfs es ls)
def Owns (g : Gh) : List F → List V → PL → Prop
  | [], xs, l => xs = [] ∧ l = []
  | f :: fs, xs, l => ∃ x r l1 l2, xs = x :: r ∧ l = l1 ++ l2 ∧ Own g f x l1 ∧ Owns g fs r l2
def OwnK (g : Gh) : List (D × F) → List (Key × V) → PL → Prop
  | [], es, l => es = [] ∧ l = []
  | (k, f) :: fs, es, l => ∃ j y t l1 l2, es = (j, y) :: t ∧ l = l1 ++ l2 ∧ k = kD j ∧ Own g f y l1 ∧ OwnK g fs t l2
def OwnT (g : Gh) : List (D × F) → List (List Key × V) → PL → Prop
  | [], es, l => es = [] ∧ l = []
  | (k, f) :: fs, es, l => ∃ j y t l1 l2, es = (j, y) :: t ∧ l = l1 ++ l2 ∧ k = tD j ∧ Own g f y l1 ∧ OwnT g fs t l2
end
mutual
theorem Own.mono {g g' : Gh} (h : g.le g') : ∀ (f : F) (v : V) (l : PL), Own g f v l → Own g' f v l
  | .d x, v, l, r => by
    simp only [Own] at r ⊢
    exact ⟨r.1, Rep.mono h x v r.2⟩
  | .lst fs, v, l, r => by
    simp only [Own] at r ⊢
    obtain ⟨a, xs, ls, e, e2, q⟩ := r
    exact ⟨a, xs, ls, e, e2, Owns.mono h fs xs ls q⟩
  | .tup fs, v, l, r => by
    simp only [Own] at r ⊢
    obtain ⟨a, xs, e, hb, q⟩ := r
    exact ⟨a, xs, e, h.b _ _ hb, Owns.mono h fs xs l q⟩
  | .dct kfs, v, l, r => by
    simp only [Own] at r ⊢
    obtain ⟨a, ls, e, ⟨es, e2, q⟩ | ⟨es, e2, q⟩⟩ := r
    · exact ⟨a, ls, e, .inl ⟨es, e2, OwnK.mono h kfs es ls q⟩⟩
    · exact ⟨a, ls, e, .inr ⟨es, e2, OwnT.mono h kfs es ls q⟩⟩
theorem Owns.mono {g g' : Gh} (h : g.le g') : ∀ (fs : List F) (vs : List V) (l : PL), Owns g fs vs l → Owns g' fs vs l
  | [], vs, l, r => r
  | f :: fs, vs, l, r => by
    simp only [Owns] at r ⊢
    obtain ⟨x, t, l1, l2, e, e2, q1, q2⟩ := r
    exact ⟨x, t, l1, l2, e, e2, Own.mono h f x l1 q1, Owns.mono h fs t l2 q2⟩
theorem OwnK.mono {g g' : Gh} (h : g.le g') : ∀ (fs : List (D × F)) (es : List (Key × V)) (l : PL), OwnK g fs es l → OwnK g' fs es l
  | [], vs, l, r => r
  | (k, f) :: fs, vs, l, r => by
    simp only [OwnK] at r ⊢
    obtain ⟨j, y, t, l1, l2, e, e2, e3, q1, q2⟩ := r
    exact ⟨j, y, t, l1, l2, e, e2, e3, Own.mono h f y l1 q1, OwnK.mono h fs t l2 q2⟩
theorem OwnT.mono {g g' : Gh} (h : g.le g') : ∀ (fs : List (D × F)) (es : List (List Key × V)) (l : PL), OwnT g fs es l → OwnT g' fs es l
  | [], vs, l, r => r
  | (k, f) :: fs, vs, l, r => by
    simp only [OwnT] at r ⊢
    obtain ⟨j, y, t, l1, l2, e, e2, e3, q1, q2⟩ := r
    exact ⟨j, y, t, l1, l2, e, e2, e3, Own.mono h f y l1 q1, OwnT.mono h fs t l2 q2⟩
end

/-! ### frozen, and owned, apart -/
def priv : HO → Bool
  | .lst _ => true
  | .dK _ => true
  | .dT _ => true
  | .ins _ _ _ => true
  | .own _ => true
  | _ => false
/-- a dict that has items -/
def busy : HO → Bool
  | .dK es => !es.isEmpty
  | .dT es => !es.isEmpty
  | _ => false
def isDict : HO → Bool
  | .dK _ => true
  | .dT _ => true
  | _ => false
structure Good (B : Hp) (P : PL) (H : Hp) : Prop where
  nd : (P.map (·.1)).Nodup
  at_ : ∀ p ∈ P, H p.1 = some p.2 ∧ B p.1 = none ∧ priv p.2 = true
  sub : ∀ a o, B a = some o → H a = some o ∨ (busy o = true ∧ ∃ ob, H a = some (.frz ob o))
  nofrz : ∀ a o u, B a = some (.frz o u) → isDict u = false
section
variable {B : Hp} {P P' : PL} {H : Hp} {a : Addr} {o : HO}
theorem Good.perm (h : Good B P H) (p : P.Perm P') : Good B P' H :=
  ⟨(p.map _).nodup_iff.mp h.nd, fun q hq => h.at_ q (p.mem_iff.mpr hq), h.sub, h.nofrz⟩
theorem Good.tail {l : PL} (h : Good B (l ++ P) H) : Good B P H := by
  refine ⟨?_, fun q hq => h.at_ q (List.mem_append_right _ hq), h.sub, h.nofrz⟩
  have := h.nd
  rw [List.map_append] at this
  exact (List.nodup_append.mp this).2.1
theorem Good.cut {l k : PL} (h : Good B (k ++ (l ++ P)) H) : Good B (k ++ P) H := by
  have e : (k ++ (l ++ P)).Perm (l ++ (k ++ P)) := by
    rw [← List.append_assoc, ← List.append_assoc]
    exact List.perm_append_comm.append_right _
  exact (h.perm e).tail
/-- a new owned object -/
theorem Good.new (h : Good B P H) (hn : H a = none) (hp : priv o = true) : Good B ((a, o) :: P) (upd H a o) := by
  have ha : ∀ p ∈ P, p.1 ≠ a := fun p hp e => by
    have := (h.at_ p hp).1
    rw [e, hn] at this
    cases this
  have hB : ∀ b u, B b = some u → b ≠ a := fun b u e z => by
    subst z
    rcases h.sub _ _ e with q | ⟨_, ob, q⟩ <;> · rw [hn] at q; cases q
  refine ⟨?_, fun p hp' => ?_, fun b u e => ?_, h.nofrz⟩
  · rw [List.map_cons, List.nodup_cons]
    refine ⟨fun hm => ?_, h.nd⟩
    obtain ⟨p, hp', e⟩ := List.mem_map.mp hm
    exact ha p hp' e
  · rcases List.mem_cons.mp hp' with rfl | hm
    · refine ⟨upd_same, ?_, hp⟩
      cases q : B a with
      | none => rfl
      | some u => exact absurd rfl (hB a u q)
    · obtain ⟨h1, h2, h3⟩ := h.at_ p hm
      exact ⟨by rw [upd_ne (ha p hm)]; exact h1, h2, h3⟩
  · rw [upd_ne (hB b u e)]
    exact h.sub b u e
/-- a new frozen object -/
theorem Good.ice (h : Good B P H) (hn : H a = none) (hf : ∀ ob u, o = .frz ob u → isDict u = false := by intro _ _ z; cases z) : Good (upd B a o) P (upd H a o) ∧ ∀ b u, B b = some u → upd B a o b = some u := by
  have ha : ∀ p ∈ P, p.1 ≠ a := fun p hp e => by
    have := (h.at_ p hp).1
    rw [e, hn] at this
    cases this
  have hB : ∀ b u, B b = some u → b ≠ a := fun b u e z => by
    subst z
    rcases h.sub _ _ e with q | ⟨_, ob, q⟩ <;> · rw [hn] at q; cases q
  refine ⟨⟨h.nd, fun p hp => ?_, fun b u e => ?_, fun b ob u e => ?_⟩, fun b u e => by rw [upd_ne (hB b u e)]; exact e⟩
  · obtain ⟨h1, h2, h3⟩ := h.at_ p hp
    rw [upd_ne (ha p hp), upd_ne (ha p hp)]
    exact ⟨h1, h2, h3⟩
  · by_cases hb : b = a
    · subst hb
      rw [upd_same] at e ⊢
      exact .inl e
    · rw [upd_ne hb] at e ⊢
      exact h.sub b u e
  · by_cases hb : b = a
    · subst hb
      rw [upd_same] at e
      exact hf _ _ (Option.some.inj e)
    · rw [upd_ne hb] at e
      exact h.nofrz b ob u e
/-- a tuple that stands is frozen -/
theorem Good.tupIce {xs : List V} (h : Good B P H) (hn : H a = some (.tup xs)) : Good (upd B a (.tup xs)) P H ∧ ∀ b u, B b = some u → upd B a (.tup xs) b = some u := by
  have ha : ∀ p ∈ P, p.1 ≠ a := fun p hp e => by
    have := h.at_ p hp
    rw [e, hn] at this
    obtain ⟨h1, _, h3⟩ := this
    rw [← Option.some.inj h1] at h3
    cases h3
  have hB : ∀ u, B a = some u → u = .tup xs := fun u e => by
    rcases h.sub _ _ e with q | ⟨_, ob, q⟩
    · rw [hn] at q; cases q; rfl
    · rw [hn] at q; cases q
  refine ⟨⟨h.nd, fun p hp => ?_, fun b u e => ?_, fun b ob u e => ?_⟩, fun b u e => ?_⟩
  · obtain ⟨h1, h2, h3⟩ := h.at_ p hp
    rw [upd_ne (ha p hp)]
    exact ⟨h1, h2, h3⟩
  · by_cases hb : b = a
    · subst hb
      rw [upd_same] at e
      cases e
      exact .inl hn
    · rw [upd_ne hb] at e
      exact h.sub b u e
  · by_cases hb : b = a
    · subst hb
      rw [upd_same] at e
      cases e
    · rw [upd_ne hb] at e
      exact h.nofrz b ob u e
  · by_cases hb : b = a
    · subst hb
      rw [upd_same, hB u e]
    · rw [upd_ne hb]; exact e
/-- an owned object is written -/
theorem Good.write {o' : HO} (h : Good B ((a, o) :: P) H) (hp : priv o' = true) : Good B ((a, o') :: P) (upd H a o') := by
  have nd := h.nd
  rw [List.map_cons, List.nodup_cons] at nd
  have ha : ∀ p ∈ P, p.1 ≠ a := fun p hp e => nd.1 (List.mem_map.mpr ⟨p, hp, e⟩)
  have hB : B a = none := (h.at_ (a, o) List.mem_cons_self).2.1
  refine ⟨by rw [List.map_cons, List.nodup_cons]; exact nd, fun p hp' => ?_, fun b u e => ?_, h.nofrz⟩
  · rcases List.mem_cons.mp hp' with rfl | hm
    · exact ⟨upd_same, hB, hp⟩
    · obtain ⟨h1, h2, h3⟩ := h.at_ p (List.mem_cons_of_mem _ hm)
      exact ⟨by rw [upd_ne (ha p hm)]; exact h1, h2, h3⟩
  · have hb : b ≠ a := fun z => by subst z; rw [hB] at e; cases e
    rw [upd_ne hb]
    exact h.sub b u e
/-- an owned object is frozen -/
theorem Good.cool (h : Good B ((a, o) :: P) H) : Good (upd B a o) P H ∧ ∀ b u, B b = some u → upd B a o b = some u := by
  have nd := h.nd
  rw [List.map_cons, List.nodup_cons] at nd
  have ha : ∀ p ∈ P, p.1 ≠ a := fun p hp e => nd.1 (List.mem_map.mpr ⟨p, hp, e⟩)
  have h0 := h.at_ (a, o) List.mem_cons_self
  have hB : ∀ b u, B b = some u → b ≠ a := fun b u e z => by subst z; rw [h0.2.1] at e; cases e
  refine ⟨⟨nd.2, fun p hp => ?_, fun b u e => ?_, fun b ob u e => ?_⟩, fun b u e => by rw [upd_ne (hB b u e)]; exact e⟩
  · obtain ⟨h1, h2, h3⟩ := h.at_ p (List.mem_cons_of_mem _ hp)
    rw [upd_ne (ha p hp)]
    exact ⟨h1, h2, h3⟩
  · by_cases hb : b = a
    · subst hb
      rw [upd_same] at e
      cases e
      exact .inl h0.1
    · rw [upd_ne hb] at e
      exact h.sub b u e
  · by_cases hb : b = a
    · subst hb
      rw [upd_same] at e
      have := h0.2.2
      rw [show o = .frz ob u from Option.some.inj e] at this
      cases this
    · rw [upd_ne hb] at e
      exact h.nofrz b ob u e
end
/-! ### freezing a tree -/
theorem Reps.length {g : Gh} : ∀ {ds : List D} {xs : List V}, Reps g ds xs → xs.length = ds.length
  | [], xs, r => by simp only [Reps] at r; rw [r]; rfl
  | d :: ds, xs, r => by
    simp only [Reps] at r
    obtain ⟨x, t, rfl, _, q⟩ := r
    simp [Reps.length q]
mutual
theorem Own.cool : ∀ (f : F) (g : Gh) (v : V) (l P : PL) (H : Hp), Own g f v l → Good g.B (l ++ P) H → ∃ g', g.le g' ∧ g.as = g'.as ∧ Rep g' f.data v ∧ Good g'.B P H
  | .d x, g, v, l, P, H, r, G => by
    simp only [Own] at r
    obtain ⟨rfl, r⟩ := r
    exact ⟨g, .refl g, rfl, by simpa only [F.data] using r, G⟩
  | .lst fs, g, v, l, P, H, r, G => by
    simp only [Own] at r
    obtain ⟨a, xs, ls, rfl, rfl, q⟩ := r
    have G1 : Good g.B (ls ++ ((a, .lst xs) :: P)) H := G.perm (by
      rw [List.cons_append]
      exact List.perm_middle.symm)
    obtain ⟨g1, l1, a1, r1, G2⟩ := Owns.cool fs g xs ls _ H q G1
    obtain ⟨G3, k⟩ := G2.cool
    refine ⟨g1.put a (.lst xs), l1.trans (.put k), a1, ?_, G3⟩
    simp only [F.data, Rep]
    exact ⟨a, xs, rfl, .inl upd_same, Reps.mono (.put k) _ _ r1⟩
  | .tup fs, g, v, l, P, H, r, G => by
    simp only [Own] at r
    obtain ⟨a, xs, rfl, hb, q⟩ := r
    obtain ⟨g1, l1, a1, r1, G2⟩ := Owns.cool fs g xs l P H q G
    exact ⟨g1, l1, a1, by simp only [F.data, Rep]; exact ⟨a, xs, rfl, l1.b _ _ hb, r1⟩, G2⟩
  | .dct kfs, g, v, l, P, H, r, G => by
    simp only [Own] at r
    obtain ⟨a, ls, rfl, ⟨es, rfl, q⟩ | ⟨es, rfl, q⟩⟩ := r
    · have G1 : Good g.B (ls ++ ((a, .dK es) :: P)) H := G.perm (by
        rw [List.cons_append]
        exact List.perm_middle.symm)
      obtain ⟨g1, l1, a1, r1, G2⟩ := OwnK.cool kfs g es ls _ H q G1
      obtain ⟨G3, k⟩ := G2.cool
      refine ⟨g1.put a (.dK es), l1.trans (.put k), a1, ?_, G3⟩
      simp only [F.data, Rep]
      exact ⟨a, rfl, .inl ⟨es, .inl upd_same, RepK.mono (.put k) _ _ r1⟩⟩
    · have G1 : Good g.B (ls ++ ((a, .dT es) :: P)) H := G.perm (by
        rw [List.cons_append]
        exact List.perm_middle.symm)
      obtain ⟨g1, l1, a1, r1, G2⟩ := OwnT.cool kfs g es ls _ H q G1
      obtain ⟨G3, k⟩ := G2.cool
      refine ⟨g1.put a (.dT es), l1.trans (.put k), a1, ?_, G3⟩
      simp only [F.data, Rep]
      exact ⟨a, rfl, .inr ⟨es, .inl upd_same, RepT.mono (.put k) _ _ r1⟩⟩
theorem Owns.cool : ∀ (fs : List F) (g : Gh) (xs : List V) (l P : PL) (H : Hp), Owns g fs xs l → Good g.B (l ++ P) H → ∃ g', g.le g' ∧ g.as = g'.as ∧ Reps g' (F.datas fs) xs ∧ Good g'.B P H
  | [], g, xs, l, P, H, r, G => by
    simp only [Owns] at r
    obtain ⟨rfl, rfl⟩ := r
    exact ⟨g, .refl g, rfl, by simp only [F.datas, Reps], G⟩
  | f :: fs, g, xs, l, P, H, r, G => by
    simp only [Owns] at r
    obtain ⟨x, t, l1, l2, rfl, rfl, q1, q2⟩ := r
    rw [List.append_assoc] at G
    obtain ⟨g1, e1, a1, r1, G1⟩ := Own.cool f g x l1 _ H q1 G
    obtain ⟨g2, e2, a2, r2, G2⟩ := Owns.cool fs g1 t l2 P H (Owns.mono e1 _ _ _ q2) G1
    refine ⟨g2, e1.trans e2, a1.trans a2, ?_, G2⟩
    simp only [F.datas, Reps]
    exact ⟨x, t, rfl, Rep.mono e2 _ _ r1, r2⟩
theorem OwnK.cool : ∀ (fs : List (D × F)) (g : Gh) (xs : List (Key × V)) (l P : PL) (H : Hp), OwnK g fs xs l → Good g.B (l ++ P) H → ∃ g', g.le g' ∧ g.as = g'.as ∧ RepK g' (F.datak fs) xs ∧ Good g'.B P H
  | [], g, xs, l, P, H, r, G => by
    simp only [OwnK] at r
    obtain ⟨rfl, rfl⟩ := r
    exact ⟨g, .refl g, rfl, by simp only [F.datak, RepK], G⟩
  | (k, f) :: fs, g, xs, l, P, H, r, G => by
    simp only [OwnK] at r
    obtain ⟨j, x, t, l1, l2, rfl, rfl, e, q1, q2⟩ := r
    rw [List.append_assoc] at G
    obtain ⟨g1, e1, a1, r1, G1⟩ := Own.cool f g x l1 _ H q1 G
    obtain ⟨g2, e2, a2, r2, G2⟩ := OwnK.cool fs g1 t l2 P H (OwnK.mono e1 _ _ _ q2) G1
    refine ⟨g2, e1.trans e2, a1.trans a2, ?_, G2⟩
    simp only [F.datak, RepK]
    exact ⟨j, x, t, rfl, e, Rep.mono e2 _ _ r1, r2⟩
theorem OwnT.cool : ∀ (fs : List (D × F)) (g : Gh) (xs : List (List Key × V)) (l P : PL) (H : Hp), OwnT g fs xs l → Good g.B (l ++ P) H → ∃ g', g.le g' ∧ g.as = g'.as ∧ RepT g' (F.datak fs) xs ∧ Good g'.B P H
  | [], g, xs, l, P, H, r, G => by
    simp only [OwnT] at r
    obtain ⟨rfl, rfl⟩ := r
    exact ⟨g, .refl g, rfl, by simp only [F.datak, RepT], G⟩
  | (k, f) :: fs, g, xs, l, P, H, r, G => by
    simp only [OwnT] at r
    obtain ⟨j, x, t, l1, l2, rfl, rfl, e, q1, q2⟩ := r
    rw [List.append_assoc] at G
    obtain ⟨g1, e1, a1, r1, G1⟩ := Own.cool f g x l1 _ H q1 G
    obtain ⟨g2, e2, a2, r2, G2⟩ := OwnT.cool fs g1 t l2 P H (OwnT.mono e1 _ _ _ q2) G1
    refine ⟨g2, e1.trans e2, a1.trans a2, ?_, G2⟩
    simp only [F.datak, RepT]
    exact ⟨j, x, t, rfl, e, Rep.mono e2 _ _ r1, r2⟩
end

/-! ### reading -/
theorem Good.sees {B : Hp} {P : PL} {H : Hp} {as : Aux} (h : Good B P H) : Gh.Sees ⟨B, as⟩ ⟨H, as⟩ := by
  have same : ∀ a o, busy o = false → B a = some o → H a = some o := fun a o hd e => by
    rcases h.sub a o e with q | ⟨q, _⟩
    · exact q
    · rw [hd] at q; cases q
  refine ⟨fun a xs e => same a _ rfl e, fun a xs e => ?_, fun a xs e => ?_, fun a xs e => ?_, fun _ _ e => e, rfl⟩
  · rcases e with e | ⟨o, e⟩
    · exact .inl (same a _ rfl e)
    · exact .inr ⟨o, same a _ rfl e⟩
  · rcases e with e | ⟨o, e⟩
    · rcases h.sub a _ e with q | ⟨_, q⟩
      · exact .inl q
      · exact .inr q
    · exact .inr ⟨o, same a _ rfl e⟩
  · rcases e with e | ⟨o, e⟩
    · rcases h.sub a _ e with q | ⟨_, q⟩
      · exact .inl q
      · exact .inr q
    · exact .inr ⟨o, same a _ rfl e⟩
mutual
theorem Own.look {g : Gh} {P : PL} {H : Hp} (G : Good g.B P H) : ∀ (f : F) (v : V) (l : PL), Own g f v l → (∀ p ∈ l, p ∈ P) → Rep ⟨H, g.as⟩ f.data v
  | .d x, v, l, r, hl => by
    simp only [Own] at r
    simpa only [F.data] using Rep.see (g := g) (g' := ⟨H, g.as⟩) G.sees x v r.2
  | .lst fs, v, l, r, hl => by
    simp only [Own] at r
    obtain ⟨a, xs, ls, rfl, rfl, q⟩ := r
    simp only [F.data, Rep]
    exact ⟨a, xs, rfl, .inl (G.at_ _ (hl _ List.mem_cons_self)).1, Owns.look G fs xs ls q fun p hp => hl p (List.mem_cons_of_mem _ hp)⟩
  | .tup fs, v, l, r, hl => by
    simp only [Own] at r
    obtain ⟨a, xs, rfl, hb, q⟩ := r
    simp only [F.data, Rep]
    exact ⟨a, xs, rfl, (G.sees (as := g.as)).t _ _ hb, Owns.look G fs xs l q hl⟩
  | .dct kfs, v, l, r, hl => by
    simp only [Own] at r
    obtain ⟨a, ls, rfl, ⟨es, rfl, q⟩ | ⟨es, rfl, q⟩⟩ := r
    · simp only [F.data, Rep]
      exact ⟨a, rfl, .inl ⟨es, .inl (G.at_ _ (hl _ List.mem_cons_self)).1, OwnK.look G kfs es ls q fun p hp => hl p (List.mem_cons_of_mem _ hp)⟩⟩
    · simp only [F.data, Rep]
      exact ⟨a, rfl, .inr ⟨es, .inl (G.at_ _ (hl _ List.mem_cons_self)).1, OwnT.look G kfs es ls q fun p hp => hl p (List.mem_cons_of_mem _ hp)⟩⟩
theorem Owns.look {g : Gh} {P : PL} {H : Hp} (G : Good g.B P H) : ∀ (fs : List F) (vs : List V) (l : PL), Owns g fs vs l → (∀ p ∈ l, p ∈ P) → Reps ⟨H, g.as⟩ (F.datas fs) vs
  | [], vs, l, r, hl => by
    simp only [Owns] at r
    simp only [F.datas, Reps]
    exact r.1
  | f :: fs, vs, l, r, hl => by
    simp only [Owns] at r
    obtain ⟨x, t, l1, l2, rfl, rfl, q1, q2⟩ := r
    simp only [F.datas, Reps]
    exact ⟨x, t, rfl, Own.look G f x l1 q1 fun p hp => hl p (List.mem_append_left _ hp), Owns.look G fs t l2 q2 fun p hp => hl p (List.mem_append_right _ hp)⟩
theorem OwnK.look {g : Gh} {P : PL} {H : Hp} (G : Good g.B P H) : ∀ (fs : List (D × F)) (es : List (Key × V)) (l : PL), OwnK g fs es l → (∀ p ∈ l, p ∈ P) → RepK ⟨H, g.as⟩ (F.datak fs) es
  | [], vs, l, r, hl => by
    simp only [OwnK] at r
    simp only [F.datak, RepK]
    exact r.1
  | (k, f) :: fs, vs, l, r, hl => by
    simp only [OwnK] at r
    obtain ⟨j, x, t, l1, l2, rfl, rfl, e, q1, q2⟩ := r
    simp only [F.datak, RepK]
    exact ⟨j, x, t, rfl, e, Own.look G f x l1 q1 fun p hp => hl p (List.mem_append_left _ hp), OwnK.look G fs t l2 q2 fun p hp => hl p (List.mem_append_right _ hp)⟩
theorem OwnT.look {g : Gh} {P : PL} {H : Hp} (G : Good g.B P H) : ∀ (fs : List (D × F)) (es : List (List Key × V)) (l : PL), OwnT g fs es l → (∀ p ∈ l, p ∈ P) → RepT ⟨H, g.as⟩ (F.datak fs) es
  | [], vs, l, r, hl => by
    simp only [OwnT] at r
    simp only [F.datak, RepT]
    exact r.1
  | (k, f) :: fs, vs, l, r, hl => by
    simp only [OwnT] at r
    obtain ⟨j, x, t, l1, l2, rfl, rfl, e, q1, q2⟩ := r
    simp only [F.datak, RepT]
    exact ⟨j, x, t, rfl, e, Own.look G f x l1 q1 fun p hp => hl p (List.mem_append_left _ hp), OwnT.look G fs t l2 q2 fun p hp => hl p (List.mem_append_right _ hp)⟩
end

/-! ### results, slots, cells -/
def ResR (g : Gh) (r : R) (v : V) (l Pv : PL) : Prop := match r with
  | .v f => Own g f v l
  | .w f => l = [] ∧ ∃ l', Own g f v l' ∧ ∀ p ∈ l', p ∈ Pv
def Ress (g : Gh) : List R → List V → PL → PL → Prop
  | [], vs, l, _ => vs = [] ∧ l = []
  | r :: rs, vs, l, Pv => ∃ v t l1 l2, vs = v :: t ∧ l = l2 ++ l1 ∧ ResR g r v l1 Pv ∧ Ress g rs t l2 Pv
theorem ResR.mono {g g' : Gh} (h : g.le g') {r : R} {v : V} {l Pv : PL} (x : ResR g r v l Pv) : ResR g' r v l Pv := by
  cases r with
  | v f => exact Own.mono h f v l x
  | w f => obtain ⟨e, l', o, s⟩ := x; exact ⟨e, l', Own.mono h f v l' o, s⟩
theorem Ress.mono {g g' : Gh} (h : g.le g') : ∀ {rs : List R} {vs : List V} {l Pv : PL}, Ress g rs vs l Pv → Ress g' rs vs l Pv
  | [], _, _, _, x => x
  | r :: rs, _, _, _, x => by
    obtain ⟨v, t, l1, l2, e, e2, q1, q2⟩ := x
    exact ⟨v, t, l1, l2, e, e2, q1.mono h, Ress.mono h q2⟩
theorem Ress.length {g : Gh} : ∀ {rs : List R} {vs : List V} {l Pv : PL}, Ress g rs vs l Pv → vs.length = rs.length
  | [], _, _, _, x => by rw [x.1]; rfl
  | r :: rs, _, _, _, x => by
    obtain ⟨v, t, l1, l2, rfl, _, _, q2⟩ := x
    simp [Ress.length q2]
theorem ResR.look {g : Gh} {r : R} {v : V} {l Pv Pr : PL} {H : Hp} (x : ResR g r v l Pv) (G : Good g.B Pr H) (hl : ∀ p ∈ l, p ∈ Pr) (hv : ∀ p ∈ Pv, p ∈ Pr) : Rep ⟨H, g.as⟩ r.data v := by
  cases r with
  | v f => exact Own.look G f v l x hl
  | w f => obtain ⟨e, l', o, s⟩ := x; exact Own.look G f v l' o fun p hp => hv p (s p hp)

def SlotR (g : Gh) (fr : PL) (r : Option R) (o : Option V) (l : PL) : Prop := match r with
  | none => l = []
  | some r => ∃ v, o = some v ∧ ResR g r v l fr
def Slots (g : Gh) (fr : PL) : Env → St → PL → Prop
  | [], σ, l => σ = [] ∧ l = []
  | r :: ρ, σ, l => ∃ o t l1 l2, σ = o :: t ∧ l = l1 ++ l2 ∧ SlotR g fr r o l1 ∧ Slots g fr ρ t l2
theorem SlotR.mono {g g' : Gh} (h : g.le g') {fr : PL} {r : Option R} {o : Option V} {l : PL} (x : SlotR g fr r o l) : SlotR g' fr r o l := by
  cases r with
  | none => exact x
  | some r => obtain ⟨v, e, q⟩ := x; exact ⟨v, e, q.mono h⟩
theorem Slots.mono {g g' : Gh} (h : g.le g') {fr : PL} : ∀ {ρ : Env} {σ : St} {l : PL}, Slots g fr ρ σ l → Slots g' fr ρ σ l
  | [], _, _, x => x
  | r :: ρ, _, _, x => by
    obtain ⟨o, t, l1, l2, e, e2, q1, q2⟩ := x
    exact ⟨o, t, l1, l2, e, e2, q1.mono h, Slots.mono h q2⟩
def Flds (g : Gh) : List (Str × F) → List (Str × V) → PL → Prop
  | [], fs, l => fs = [] ∧ l = []
  | (n, f) :: r, fs, l => ∃ v t l1 l2, fs = (n, v) :: t ∧ l = l1 ++ l2 ∧ Own g f v l1 ∧ Flds g r t l2
theorem Flds.mono {g g' : Gh} (h : g.le g') : ∀ {fs : List (Str × F)} {vs : List (Str × V)} {l : PL}, Flds g fs vs l → Flds g' fs vs l
  | [], _, _, x => x
  | (n, f) :: r, _, _, x => by
    obtain ⟨v, t, l1, l2, e, e2, q1, q2⟩ := x
    exact ⟨v, t, l1, l2, e, e2, Own.mono h _ _ _ q1, Flds.mono h q2⟩
def CellR (cl : Cl) (g : Gh) (c : Cell) (a : Addr) (l : PL) : Prop :=
  ∃ C dx fs lf, cl c.cls = some C ∧ l = (a, .ins C dx fs) :: (dx, .own a) :: lf ∧ Flds g c.flds fs lf
def CellsL (cl : Cl) (g : Gh) : Mem → List Addr → PL → Prop
  | [], as, l => as = [] ∧ l = []
  | c :: m, as, l => ∃ a t l1 l2, as = a :: t ∧ l = l1 ++ l2 ∧ CellR cl g c a l1 ∧ CellsL cl g m t l2
theorem CellsL.mono {cl : Cl} {g g' : Gh} (h : g.le g') : ∀ {m : Mem} {as : List Addr} {l : PL}, CellsL cl g m as l → CellsL cl g' m as l
  | [], _, _, x => x
  | c :: m, _, _, x => by
    obtain ⟨a, t, l1, l2, e, e2, ⟨C, dx, fs, lf, e3, e4, q⟩, q2⟩ := x
    exact ⟨a, t, l1, l2, e, e2, ⟨C, dx, fs, lf, e3, e4, q.mono h⟩, CellsL.mono h q2⟩
def Cells (cl : Cl) (g : Gh) (m : Mem) (as : Aux) (l : PL) : Prop := CellsL cl g m as.l l ∧ as.K = cl.K
theorem Cells.mono {cl : Cl} {g g' : Gh} (h : g.le g') {m : Mem} {as : Aux} {l : PL} (x : Cells cl g m as l) : Cells cl g' m as l := ⟨x.1.mono h, x.2⟩
end VS

/-! VSd: what holds behind an evaluation; the readings. -/
namespace VS
open PySem L2

section
variable (cl : Cl) (W : WX)

structure Rel (g : Gh) (ρ : Env) (m : Mem) (ls tmp fr : PL) (σ : St) (H : Hp) : Prop where
  slots : Slots g fr ρ σ ls
  mem : ∃ lc, Cells cl g m g.as lc ∧ Good g.B (tmp ++ (ls ++ (lc ++ fr))) H
/-- what follows a result: Rl says how it stands -/
def Aft {α β : Type} (Rl : Gh → α → β → PL → PL → Prop) (g : Gh) (ρ : Env) (ls tmp fr : PL) (σ : St) (Q : β → Hp → Prop) : Out α → Prop
  | .ok a m => ∀ v g' H' l, g.le g' → Rl g' a v l (ls ++ fr) → Rel cl g' ρ m ls (l ++ tmp) fr σ H' → Q v H'
  | .exc c m => ∃ C, cl c = some C ∧ ∀ g' H', g.le g' → Rel cl g' ρ m ls tmp fr σ H' → W (.ref C) none σ H'
  | .bad => False
def tE (e : E) : TE := fun σ H Q => ∃ g ρ m ls tmp fr, Rel cl g ρ m ls tmp fr σ H ∧ Aft cl W ResR g ρ ls tmp fr σ Q (ev e ρ m)
def tA (es : E) : TA := fun σ H Q => ∃ g ρ m ls tmp fr, Rel cl g ρ m ls tmp fr σ H ∧ Aft cl W Ress g ρ ls tmp fr σ Q (evs es ρ m)
/-- a test -/
def RlB (_ : Gh) (r : R) (b : Bool) (l _ : PL) : Prop := isTr r = some b ∧ l = []
def tT (e : E) : TT := fun σ H Q => ∃ g ρ m ls tmp fr, Rel cl g ρ m ls tmp fr σ H ∧ Aft cl W RlB g ρ ls tmp fr σ Q ((ev e ρ m).bind fun r m1 => match isTr r with | some b => .ok (.p (.bl b)) m1 | none => .bad)
end
section
variable {cl : Cl} {W : WX} {g g' : Gh} {ρ : Env} {m : Mem} {ls tmp fr l l0 : PL} {σ : St} {H : Hp} {α β γ δ : Type}
  {Rl : Gh → α → β → PL → PL → Prop} {Rl' : Gh → γ → δ → PL → PL → Prop} {Q : δ → Hp → Prop} {Q1 : β → Hp → Prop}
theorem Rel.drop (h : Rel cl g ρ m ls (l ++ tmp) fr σ H) : Rel cl g ρ m ls tmp fr σ H := by
  obtain ⟨s, lc, c, G⟩ := h
  rw [List.append_assoc] at G
  exact ⟨s, lc, c, G.tail⟩
theorem Aft.le {x : Out γ} (le : g.le g') (h : Aft cl W Rl' g ρ ls tmp fr σ Q x) : Aft cl W Rl' g' ρ ls tmp fr σ Q x := by
  cases x with
  | ok a m => exact fun v g2 H' l k => h v g2 H' l (le.trans k)
  | exc c m =>
    obtain ⟨C, hc, q⟩ := h
    exact ⟨C, hc, fun g2 H' k => q g2 H' (le.trans k)⟩
  | bad => exact h
/-- one evaluation and what follows it -/
theorem Aft.bind {x : Out α} {k : α → Mem → Out γ} (h : Aft cl W Rl' g ρ ls tmp fr σ Q (x.bind k))
    (hq : ∀ a m1 v g1 H1 l1, x = .ok a m1 → g.le g1 → Rl g1 a v l1 (ls ++ fr) → Rel cl g1 ρ m1 ls (l1 ++ (l0 ++ tmp)) fr σ H1 → Aft cl W Rl' g1 ρ ls tmp fr σ Q (k a m1) → Q1 v H1) :
    Aft cl W Rl g ρ ls (l0 ++ tmp) fr σ Q1 x := by
  cases x with
  | ok a m1 => exact fun v g1 H1 l1 le r R => hq a m1 v g1 H1 l1 rfl le r R (Aft.le le h)
  | exc c m1 =>
    obtain ⟨C, hc, q⟩ := h
    exact ⟨C, hc, fun g2 H' k' R => q g2 H' k' R.drop⟩
  | bad => exact h
theorem Aft.bind0 {x : Out α} {k : α → Mem → Out γ} (h : Aft cl W Rl' g ρ ls tmp fr σ Q (x.bind k))
    (hq : ∀ a m1 v g1 H1 l1, x = .ok a m1 → g.le g1 → Rl g1 a v l1 (ls ++ fr) → Rel cl g1 ρ m1 ls (l1 ++ tmp) fr σ H1 → Aft cl W Rl' g1 ρ ls tmp fr σ Q (k a m1) → Q1 v H1) :
    Aft cl W Rl g ρ ls tmp fr σ Q1 x := Aft.bind (l0 := []) h hq
/-- a value function of data: what it asks of the heap -/
def PrimR {α : Type} (Rl : Gh → α → V → PL → PL → Prop) (sem : List R → Option α) (r : List V → Hp → VK → Prop) : Prop :=
  ∀ (g : Gh) (rs : List R) (vs : List V) (l Pv Pr : PL) (H : Hp) (Q : VK) (res : α), Ress g rs vs l Pv → (∀ p ∈ Pv, p ∈ Pr) → Good g.B (l ++ Pr) H → sem rs = some res →
    (∀ v g' H' l', g.le g' → g.as = g'.as → Rl g' res v l' Pv → Good g'.B (l' ++ Pr) H' → Q v H') → r vs H Q
/-- the end of a prim's step -/
theorem prim_end {sem : List R → Option R} {r : List V → Hp → VK → Prop} {rs : List R} {vs : List V} {Q : VK} (hp : PrimR ResR sem r) (hr : Ress g rs vs l (ls ++ fr)) (R : Rel cl g ρ m ls (l ++ tmp) fr σ H)
    (h : Aft cl W ResR g ρ ls tmp fr σ Q (Out.of (sem rs) m)) : r vs H Q := by
  obtain ⟨s, lc, c, G⟩ := R
  rw [List.append_assoc] at G
  cases e : sem rs with
  | none => rw [e] at h; exact h.elim
  | some res =>
    rw [e] at h
    refine hp g rs vs l (ls ++ fr) (tmp ++ (ls ++ (lc ++ fr))) H Q res hr (fun p hp => ?_) G e fun v g' H' l' le as rv G' => ?_
    · simp only [List.mem_append] at hp ⊢
      rcases hp with hp | hp
      · exact .inr (.inl hp)
      · exact .inr (.inr (.inr hp))
    · refine h v g' H' l' le rv ⟨s.mono le, lc, as ▸ c.mono le, ?_⟩
      rw [List.append_assoc]
      exact G'
theorem ress1 {r : R} {v : V} {Pv : PL} (h : ResR g r v l Pv) : Ress g [r] [v] l Pv := ⟨v, [], l, [], rfl, by simp, h, rfl, rfl⟩
theorem ress2 {r q : R} {v u : V} {l1 l2 Pv : PL} (h : ResR g r v l1 Pv) (k : ResR g q u l2 Pv) : Ress g [r, q] [v, u] (l2 ++ l1) Pv := ⟨v, [u], l1, l2, rfl, rfl, h, ress1 k⟩
theorem ress_cons {r : R} {v : V} {rs : List R} {vs : List V} {l1 l2 Pv : PL} (h : ResR g r v l1 Pv) (k : Ress g rs vs l2 Pv) : Ress g (r :: rs) (v :: vs) (l2 ++ l1) Pv := ⟨v, vs, l1, l2, rfl, rfl, h, k⟩
/-- a result that is new pure data, nothing new in the heap -/
theorem res_p {x : D} {v : V} {Pv : PL} (h : Rep g x v) : ResR g (.p x) v [] Pv := by
  show Own g (.d x) v []
  simp only [Own]
  exact ⟨trivial, h⟩
/-- what a read of the arguments sees -/
theorem Ress.look : ∀ {rs : List R} {vs : List V} {l Pv Pr : PL} {H : Hp}, Ress g rs vs l Pv → Good g.B Pr H → (∀ p ∈ l, p ∈ Pr) → (∀ p ∈ Pv, p ∈ Pr) → Paired (fun r v => Rep ⟨H, g.as⟩ (R.data r) v) rs vs
  | [], _, _, _, _, _, h, _, _, _ => by rw [h.1]; exact .nil
  | r :: rs, _, _, _, _, _, h, G, hl, hv => by
    obtain ⟨v, t, l1, l2, rfl, rfl, q1, q2⟩ := h
    exact .cons (q1.look G (fun p hp => hl p (List.mem_append_right _ hp)) hv) (Ress.look q2 G (fun p hp => hl p (List.mem_append_left _ hp)) hv)
end
end VS

/-! VSe: what the operators ask, met by what they evaluate to. -/
namespace VS
open PySem PySem.Spec PyProof.Rows L2

theorem sizeB_eq : sizeB = sizeLine := by rw [sizeLine_eq]; rfl
/-! ### how a result stands -/
section
variable {g : Gh} {r : R} {v : V} {l Pv P : PL} {H : Hp} {x : D} {ds : List D}
theorem own_d {l : PL} : Own g (.d x) v l ↔ l = [] ∧ Rep g x v := by simp only [Own]
theorem res_rep (h : ResR g r v l Pv) (e : r.f = .d x) : Rep g x v := by
  cases r with
  | v f => cases (show f = .d x from e); exact (own_d.mp h).2
  | w f => cases (show f = .d x from e); obtain ⟨_, l', o, _⟩ := h; exact (own_d.mp o).2
theorem res_own (h : ResR g r v l Pv) (hl : ∀ p ∈ l, p ∈ P) (hv : ∀ p ∈ Pv, p ∈ P) : ∃ l', Own g r.f v l' ∧ ∀ p ∈ l', p ∈ P := by
  cases r with
  | v f => exact ⟨l, h, hl⟩
  | w f => obtain ⟨_, l', o, s⟩ := h; exact ⟨l', o, fun p hp => hv p (s p hp)⟩
theorem rep_int {i : Int} (h : Rep g (.int i) v) : v = .int i := by simpa only [Rep] using h
theorem rep_str {i : Str} (h : Rep g (.str i) v) : v = .str i := by simpa only [Rep] using h
theorem rep_bl {i : Bool} (h : Rep g (.bl i) v) : v = .bl i := by simpa only [Rep] using h
theorem rep_non (h : Rep g .non v) : v = .non := by simpa only [Rep] using h
theorem res_int {i : Int} (h : ResR g r v l Pv) (e : r.f = .d (.int i)) : v = .int i := rep_int (res_rep h e)
theorem res_str {i : Str} (h : ResR g r v l Pv) (e : r.f = .d (.str i)) : v = .str i := rep_str (res_rep h e)
theorem data_int {f : F} {i : Int} (h : f.data = .int i) : f = .d (.int i) := by
  cases f <;> simp [F.data] at h
  rw [h]
theorem data_str {f : F} {i : Str} (h : f.data = .str i) : f = .d (.str i) := by
  cases f <;> simp [F.data] at h
  rw [h]
theorem data_bl {f : F} {i : Bool} (h : f.data = .bl i) : f = .d (.bl i) := by
  cases f <;> simp [F.data] at h
  rw [h]
theorem data_non {f : F} (h : f.data = .non) : f = .d .non := by
  cases f <;> simp [F.data] at h
  rw [h]
theorem pures_owns : ∀ {fs : List F} {ds : List D} {xs : List V} {l : PL}, F.pures fs = some ds → Owns g fs xs l → Reps g ds xs ∧ l = []
  | [], ds, xs, l, e, h => by
    simp only [F.pures, Option.some.injEq] at e
    simp only [Owns] at h
    subst e
    exact ⟨by simp only [Reps]; exact h.1, h.2⟩
  | .d x :: fs, ds, xs, l, e, h => by
    simp only [F.pures, Option.map_eq_some_iff] at e
    obtain ⟨ds', e1, rfl⟩ := e
    simp only [Owns] at h
    obtain ⟨y, t, l1, l2, rfl, rfl, o1, o2⟩ := h
    obtain ⟨q1, rfl⟩ := pures_owns e1 o2
    obtain ⟨rfl, r1⟩ := own_d.mp o1
    exact ⟨by simp only [Reps]; exact ⟨y, t, rfl, r1, q1⟩, rfl⟩
  | .lst _ :: _, _, _, _, e, _ => by simp [F.pures] at e
  | .tup _ :: _, _, _, _, e, _ => by simp [F.pures] at e
  | .dct _ :: _, _, _, _, e, _ => by simp [F.pures] at e
theorem pures_data : ∀ {fs : List F} {ds : List D}, F.pures fs = some ds → F.datas fs = ds
  | [], ds, e => by simp only [F.pures, Option.some.injEq] at e; simp only [F.datas]; exact e
  | .d x :: fs, ds, e => by
    simp only [F.pures, Option.map_eq_some_iff] at e
    obtain ⟨ds', e1, rfl⟩ := e
    simp only [F.datas, F.data, pures_data e1]
  | .lst _ :: _, _, e => by simp [F.pures] at e
  | .tup _ :: _, _, e => by simp [F.pures] at e
  | .dct _ :: _, _, e => by simp [F.pures] at e
theorem pures_map : ∀ ds : List D, F.pures (ds.map .d) = some ds
  | [] => rfl
  | d :: ds => by simp only [List.map_cons, F.pures, pures_map ds, Option.map_some]
theorem owns_pures : ∀ {ds : List D} {xs : List V}, Reps g ds xs → Owns g (ds.map .d) xs []
  | [], xs, h => by simp only [Reps] at h; simp only [List.map_nil, Owns]; exact ⟨h, trivial⟩
  | d :: ds, xs, h => by
    simp only [Reps] at h
    obtain ⟨x, t, rfl, q1, q2⟩ := h
    simp only [List.map_cons, Owns]
    exact ⟨x, t, [], [], rfl, rfl, own_d.mpr ⟨rfl, q1⟩, owns_pures q2⟩
theorem rd_lst {B : Hp} {a : Addr} {xs : List V} (G : Good B P H) (h : Rd B a (.lst xs)) : Rd H a (.lst xs) := by
  have same : ∀ a o, busy o = false → B a = some o → H a = some o := fun a o hd e => by
    rcases G.sub a o e with q | ⟨q, _⟩
    · exact q
    · rw [hd] at q; cases q
  rcases h with e | ⟨o, e⟩
  · exact .inl (same a _ rfl e)
  · exact .inr ⟨o, same a _ rfl e⟩
/-- a list of pure items -/
theorem res_list (h : ResR g r v l Pv) (G : Good g.B P H) (hl : ∀ p ∈ l, p ∈ P) (hv : ∀ p ∈ Pv, p ∈ P) (e : r.f.isL = some ds) : ∃ a xs, v = .ref a ∧ Rd H a (.lst xs) ∧ Reps g ds xs := by
  obtain ⟨l', o, hl'⟩ := res_own h hl hv
  cases hf : r.f with
  | d x =>
    rw [hf] at e o
    cases x <;> simp only [F.isL, Option.some.injEq, reduceCtorEq] at e
    subst e
    obtain ⟨_, q⟩ := own_d.mp o
    simp only [Rep] at q
    obtain ⟨a, xs, e, hb, q⟩ := q
    exact ⟨a, xs, e, rd_lst G hb, q⟩
  | lst fs =>
    rw [hf] at e o
    simp only [F.isL] at e
    simp only [Own] at o
    obtain ⟨a, xs, ls, rfl, rfl, o⟩ := o
    exact ⟨a, xs, rfl, .inl (G.at_ _ (hl' _ List.mem_cons_self)).1, (pures_owns e o).1⟩
  | tup fs => rw [hf] at e; simp [F.isL] at e
  | dct fs => rw [hf] at e; simp [F.isL] at e
theorem tup_at {B : Hp} {a : Addr} {xs : List V} (G : Good B P H) (h : B a = some (.tup xs)) : H a = some (.tup xs) := by
  have same : ∀ a o, busy o = false → B a = some o → H a = some o := fun a o hd e => by
    rcases G.sub a o e with q | ⟨q, _⟩
    · exact q
    · rw [hd] at q; cases q
  exact same a _ rfl h
theorem res_tup (h : ResR g r v l Pv) (G : Good g.B P H) (e : r.f = .d (.tup ds)) : ∃ a xs, v = .ref a ∧ g.B a = some (.tup xs) ∧ H a = some (.tup xs) ∧ Reps g ds xs := by
  have q := res_rep h e
  simp only [Rep] at q
  obtain ⟨a, xs, e, hb, q⟩ := q
  exact ⟨a, xs, e, hb, tup_at G hb, q⟩
theorem isLT_cases {f : F} (e : f.isLT = some ds) : f = .d (.tup ds) ∨ f.isL = some ds := by
  unfold F.isLT at e
  split at e
  · cases e; exact .inl rfl
  · exact .inr e
theorem res_seq (h : ResR g r v l Pv) (G : Good g.B P H) (hl : ∀ p ∈ l, p ∈ P) (hv : ∀ p ∈ Pv, p ∈ P) (e : r.f.isLT = some ds) : ∃ a xs, v = .ref a ∧ (Rd H a (.lst xs) ∨ H a = some (.tup xs)) ∧ Reps g ds xs := by
  rcases isLT_cases e with e | e
  · obtain ⟨a, xs, e1, _, e2, q⟩ := res_tup h G e
    exact ⟨a, xs, e1, .inr e2, q⟩
  · obtain ⟨a, xs, e1, e2, q⟩ := res_list h G hl hv e
    exact ⟨a, xs, e1, .inl e2, q⟩
theorem own_list {xs : List V} {p : Addr} (h : Reps g ds xs) : Own g (.lst (ds.map .d)) (.ref p) [(p, .lst xs)] := by
  simp only [Own]
  exact ⟨p, xs, [], rfl, rfl, owns_pures h⟩
theorem reps_append : ∀ {as bs : List D} {xs ys : List V}, Reps g as xs → Reps g bs ys → Reps g (as ++ bs) (xs ++ ys)
  | [], _, _, _, h, k => by simp only [Reps] at h; subst h; exact k
  | a :: as, _, _, _, h, k => by
    simp only [Reps] at h
    obtain ⟨x, t, rfl, q1, q2⟩ := h
    simp only [List.cons_append, Reps]
    exact ⟨x, _, rfl, q1, reps_append q2 k⟩
theorem reps_take : ∀ {as : List D} {xs : List V} (n : Nat), Reps g as xs → Reps g (as.take n) (xs.take n)
  | [], _, n, h => by simp only [Reps] at h; subst h; simp [Reps]
  | a :: as, _, 0, h => by simp [Reps]
  | a :: as, _, n + 1, h => by
    simp only [Reps] at h
    obtain ⟨x, t, rfl, q1, q2⟩ := h
    simp only [List.take_succ_cons, Reps]
    exact ⟨x, _, rfl, q1, reps_take n q2⟩
theorem reps_drop : ∀ {as : List D} {xs : List V} (n : Nat), Reps g as xs → Reps g (as.drop n) (xs.drop n)
  | [], _, n, h => by simp only [Reps] at h; subst h; simp [Reps]
  | a :: as, _, 0, h => by simpa using h
  | a :: as, _, n + 1, h => by
    simp only [Reps] at h
    obtain ⟨x, t, rfl, q1, q2⟩ := h
    simp only [List.drop_succ_cons]
    exact reps_drop n q2
theorem reps_get : ∀ {as : List D} {xs : List V} (n : Nat) {d : D}, Reps g as xs → as[n]? = some d → ∃ x, xs[n]? = some x ∧ Rep g d x
  | [], _, n, d, h, e => by simp at e
  | a :: as, _, 0, d, h, e => by
    simp only [Reps] at h
    obtain ⟨x, t, rfl, q1, q2⟩ := h
    simp only [List.getElem?_cons_zero, Option.some.injEq] at e
    subst e
    exact ⟨x, rfl, q1⟩
  | a :: as, _, n + 1, d, h, e => by
    simp only [Reps] at h
    obtain ⟨x, t, rfl, q1, q2⟩ := h
    simp only [List.getElem?_cons_succ] at e
    obtain ⟨y, e2, q⟩ := reps_get n q2 e
    exact ⟨y, by simpa using e2, q⟩
theorem reps_rep : ∀ {as : List D} {xs : List V} (n : Nat), Reps g as xs → Reps g (List.replicate n as).flatten (List.replicate n xs).flatten
  | _, _, 0, _ => by simp [Reps]
  | as, xs, n + 1, h => by
    rw [List.replicate_succ, List.replicate_succ, List.flatten_cons, List.flatten_cons]
    exact reps_append h (reps_rep n h)
theorem reps_ints : ∀ {ds : List D} {ns : List Int} {xs : List V}, intsD ds = some ns → Reps g ds xs → xs = ns.map V.int
  | [], ns, xs, e, h => by simp only [intsD, Option.some.injEq] at e; simp only [Reps] at h; subst e; subst h; rfl
  | .int i :: ds, ns, xs, e, h => by
    simp only [intsD, Option.map_eq_some_iff] at e
    obtain ⟨ns', e1, rfl⟩ := e
    simp only [Reps] at h
    obtain ⟨x, t, rfl, q1, q2⟩ := h
    rw [reps_ints e1 q2, rep_int q1]
    rfl
  | .non :: _, _, _, e, _ => by simp [intsD] at e
  | .bl _ :: _, _, _, e, _ => by simp [intsD] at e
  | .str _ :: _, _, _, e, _ => by simp [intsD] at e
  | .tup _ :: _, _, _, e, _ => by simp [intsD] at e
  | .lst _ :: _, _, _, e, _ => by simp [intsD] at e
  | .dct _ :: _, _, _, e, _ => by simp [intsD] at e
  | .obj _ :: _, _, _, e, _ => by simp [intsD] at e
  | .scr _ :: _, _, _, e, _ => by simp [intsD] at e
theorem reps_bls : ∀ {ds : List D} {ns : List Bool} {xs : List V}, blsD ds = some ns → Reps g ds xs → xs = ns.map V.bl
  | [], ns, xs, e, h => by simp only [blsD, Option.some.injEq] at e; simp only [Reps] at h; subst e; subst h; rfl
  | .bl i :: ds, ns, xs, e, h => by
    simp only [blsD, Option.map_eq_some_iff] at e
    obtain ⟨ns', e1, rfl⟩ := e
    simp only [Reps] at h
    obtain ⟨x, t, rfl, q1, q2⟩ := h
    rw [reps_bls e1 q2, rep_bl q1]
    rfl
  | .non :: _, _, _, e, _ => by simp [blsD] at e
  | .int _ :: _, _, _, e, _ => by simp [blsD] at e
  | .str _ :: _, _, _, e, _ => by simp [blsD] at e
  | .tup _ :: _, _, _, e, _ => by simp [blsD] at e
  | .lst _ :: _, _, _, e, _ => by simp [blsD] at e
  | .dct _ :: _, _, _, e, _ => by simp [blsD] at e
  | .obj _ :: _, _, _, e, _ => by simp [blsD] at e
  | .scr _ :: _, _, _, e, _ => by simp [blsD] at e
theorem reps_strs : ∀ {ds : List D} {ns : List Str} {xs : List V}, strsD ds = some ns → Reps g ds xs → xs = ns.map V.str
  | [], ns, xs, e, h => by simp only [strsD, Option.some.injEq] at e; simp only [Reps] at h; subst e; subst h; rfl
  | .str i :: ds, ns, xs, e, h => by
    simp only [strsD, Option.map_eq_some_iff] at e
    obtain ⟨ns', e1, rfl⟩ := e
    simp only [Reps] at h
    obtain ⟨x, t, rfl, q1, q2⟩ := h
    rw [reps_strs e1 q2, rep_str q1]
    rfl
  | .non :: _, _, _, e, _ => by simp [strsD] at e
  | .int _ :: _, _, _, e, _ => by simp [strsD] at e
  | .bl _ :: _, _, _, e, _ => by simp [strsD] at e
  | .tup _ :: _, _, _, e, _ => by simp [strsD] at e
  | .lst _ :: _, _, _, e, _ => by simp [strsD] at e
  | .dct _ :: _, _, _, e, _ => by simp [strsD] at e
  | .obj _ :: _, _, _, e, _ => by simp [strsD] at e
  | .scr _ :: _, _, _, e, _ => by simp [strsD] at e
end

/-! ### operators by values -/
def r2L (r : R2) : List V → Hp → VK → Prop := fun vs H Q => ∃ x y, vs = [x, y] ∧ r x y H Q
/-- the two of a pair of arguments -/
theorem ress_two {g : Gh} {rs : List R} {vs : List V} {l Pv : PL} {α : Type} {f : R → R → Option α} {res : α} (h : Ress g rs vs l Pv) (e : sem2 f rs = some res) :
    ∃ a b x y l1 l2, rs = [a, b] ∧ vs = [x, y] ∧ l = l2 ++ l1 ∧ ResR g a x l1 Pv ∧ ResR g b y l2 Pv ∧ f a b = some res := by
  match rs, e with
  | [a, b], e =>
    obtain ⟨x, t, l1, l2, rfl, rfl, q1, y, t2, l3, l4, rfl, rfl, q2, rfl, rfl⟩ := h
    exact ⟨a, b, x, y, l1, l3, rfl, rfl, by simp, q1, q2, e⟩
  | [], e => simp [sem2] at e
  | [_], e => simp [sem2] at e
  | _ :: _ :: _ :: _, e => simp [sem2] at e
/-- a prim of two arguments from its parts -/
theorem prim2 {f : R → R → Option R} {r : R2}
    (h : ∀ (g : Gh) (a b : R) (x y : V) (l1 l2 Pv Pr : PL) (H : Hp) (Q : VK) (res : R), ResR g a x l1 Pv → ResR g b y l2 Pv → (∀ p ∈ Pv, p ∈ l2 ++ (l1 ++ Pr)) → Good g.B (l2 ++ (l1 ++ Pr)) H → f a b = some res →
      (∀ v g' H' l', g.le g' → g.as = g'.as → ResR g' res v l' Pv → Good g'.B (l' ++ Pr) H' → Q v H') → r x y H Q) : PrimR ResR (sem2 f) (r2L r) := by
  intro g rs vs l Pv Pr H Q res hr hv G e q
  obtain ⟨a, b, x, y, l1, l2, rfl, rfl, rfl, h1, h2, e⟩ := ress_two hr e
  rw [List.append_assoc] at G
  exact ⟨x, y, rfl, h g a b x y l1 l2 Pv Pr H Q res h1 h2 (fun p hp => List.mem_append_right _ (List.mem_append_right _ (hv p hp))) G e q⟩
section
variable {X : Cx}
theorem Inv.lstR {pins : List (Addr × Obj)} {σ : L2.St} {H : Hp} {s : Shared} {l : Addr} {xs : List V} (I : Inv X pins σ H s) (hH : Rd H l (.lst xs)) :
    xs.length ≤ sizeLine ∧ ∃ (its : List Value) (n : Nat), Vals xs its ∧ xs.length = its.length ∧ s.heap.get? l = some { cls := .type "list", data := .seq its.toArray n } := by
  obtain ⟨z, its, n, r, e⟩ := (show ObjOk X.prog X.w H s.heap l (.lst xs) from hH.ok I.hok)
  exact ⟨z, its, n, r, r.length, e⟩
def rCatR : R2 := fun x y H Q => ∃ l b xs zs, x = .ref l ∧ y = .ref b ∧ Rd H l (.lst xs) ∧ Rd H b (.lst zs) ∧ xs.length + zs.length ≤ sizeLine ∧ ∀ p, H p = none → Q (.ref p) (upd H p (.lst (xs ++ zs)))
theorem op_catR : OpR X (binaryOp .Add) rCatR := by
  intro pins s σ H x y v u Q I rx ry h
  obtain ⟨l, b, xs, zs, rfl, rfl, hH, hB, hz, q⟩ := h
  cases rx
  cases ry
  obtain ⟨z, its, n, r, hl, e⟩ := VS.Inv.lstR I hH
  obtain ⟨z2, its2, n2, r2, hl2, e2⟩ := VS.Inv.lstR I hB
  refine PySem.P.add_list e e2 ?_ (by rw [List.size_toArray, List.size_toArray]; omega)
  have ea : its.toArray ++ its2.toArray = (its ++ its2).toArray := by simp
  rw [ea]
  exact ⟨.ref _, _, I.lnew (t' := s.toks) (r.append r2) (by rw [List.length_append]; omega), rfl, q _ I.fresh⟩
def rRepR : R2 := fun x y H Q => ∃ l k xs, x = .ref l ∧ y = .int k ∧ Rd H l (.lst xs) ∧ -(2 ^ 63) ≤ k ∧ k < 2 ^ 63 ∧ xs.length * k.toNat ≤ sizeLine ∧
  ∀ p, H p = none → Q (.ref p) (upd H p (.lst (List.replicate k.toNat xs).flatten))
theorem op_repR : OpR X (binaryOp .Mult) rRepR := by
  intro pins s σ H x y v u Q I rx ry h
  obtain ⟨l, k, xs, rfl, rfl, hH, h1, h2, hz, q⟩ := h
  cases rx
  obtain ⟨t, rfl⟩ := ry
  obtain ⟨z, its, n, r, hl, e⟩ := VS.Inv.lstR I hH
  have hlen : its.toArray.size * k.toNat ≤ sizeLine := by rw [List.size_toArray, ← hl]; exact hz
  have hcap : ¬ its.toArray.size * k.toNat > (2 ^ 63 - 1) / 8 := by
    have : (sizeLine : Nat) ≤ (2 ^ 63 - 1) / 8 := by decide
    omega
  have hfit : ¬ (!Builtin.List.listFitsIndex k) = true := by
    rw [fitsIndex_both h1 h2]
    exact Bool.false_ne_true
  have hlong : ¬ Builtin.List.listTooLong (its.toArray.size * k.toNat) = true := by
    rw [notLongL hlen]
    exact Bool.false_ne_true
  have hnew : List.foldl (fun x1 x2 => x1 ++ x2) #[] (List.replicate (if its.toArray.isEmpty = true then 0 else k.toNat) its.toArray) = (List.replicate k.toNat its).flatten.toArray := by
    have f0 : ∀ m : Nat, List.foldl (fun x1 x2 => x1 ++ x2) #[] (List.replicate m its.toArray) = (List.replicate m its).flatten.toArray := fun m => by
      have := foldl_rep its m []
      rw [List.nil_append] at this
      exact this
    rw [f0]
    cases its with
    | nil => simp
    | cons a r' => rw [if_neg (by simp)]
  refine wpAny_binaryOp_repeat_ref (T := "list") (U := "int") (by decide) ⟨_, e, rfl⟩ (fun s' => typeIs_int s' k t) noFill_list_mul F.fills_int_mul F.slot_int_rmul repeat_list F.slot_int_index.lookup
    (call_meets F.slot_int_rmul (typeIs_int s k t) F.entry_int_rmul (F.args_int_rmul_2 _ _) (int___rmul___int_list k t l its.toArray n)
      ⟨e, rfl, ⟨_, e, rfl⟩, call_meets F.slot_list_mul ⟨_, e, rfl⟩ F.entry_list_mul (F.args_list_mul_2 _ _) (AutoListH.list___mul___list_int_3 l its.toArray n k t hfit hcap hlong) ⟨e, ?_⟩⟩)
  rw [hnew]
  exact ⟨.ref _, _, I.lnew (t' := s.toks) (r.rep k.toNat) (by rw [PyProof.Rows.lm_len_rep_flat, Nat.mul_comm]; exact hz), rfl, q _ I.fresh⟩
end
theorem log2_200 {j : Int} (h : 0 < j) (h2 : j < 2 ^ 200) : j.natAbs.log2 < 9000 := by
  have : j.natAbs < 2 ^ 200 := by
    have e : ((j.natAbs : Nat) : Int) < ((2 ^ 200 : Nat) : Int) := by
      rw [Int.natAbs_of_nonneg (Int.le_of_lt h)]
      exact_mod_cast h2
    exact_mod_cast e
  exact Nat.lt_of_lt_of_le (PySem.Flt.log2_lt_of (by decide) this) (by decide)
end VS

/-! VSf: the binary operators. -/
namespace VS
open PySem PySem.Spec PyProof.Rows L2
section
variable {X : Cx}
abbrev BinOk (X : Cx) (op : Operator) : Prop := ∃ r, OpR X (binaryOp op) r ∧ PrimR ResR (sem2 (binS op)) (r2L r)
/-- an end that leaves the heap as it was: new pure data without a heap place -/
theorem end_p {g : Gh} {Pv Pr l2 l1 : PL} {H : Hp} {Q : VK} {x : D} {v : V} (G : Good g.B (l2 ++ (l1 ++ Pr)) H) (h : Rep g x v)
    (q : ∀ v g' H' l', g.le g' → g.as = g'.as → ResR g' (.p x) v l' Pv → Good g'.B (l' ++ Pr) H' → Q v H') : Q v H :=
  q v g H [] (.refl g) rfl (res_p h) G.tail.tail
/-- a new list -/
theorem end_l {g : Gh} {Pv Pr l2 l1 : PL} {H : Hp} {Q : VK} {ds : List D} {xs : List V} (G : Good g.B (l2 ++ (l1 ++ Pr)) H) (h : Reps g ds xs)
    (q : ∀ v g' H' l', g.le g' → g.as = g'.as → ResR g' (.v (.lst (ds.map .d))) v l' Pv → Good g'.B (l' ++ Pr) H' → Q v H') : ∀ p, H p = none → Q (.ref p) (upd H p (.lst xs)) := fun p hp => by
  exact q (.ref p) g (upd H p (.lst xs)) [(p, .lst xs)] (.refl g) rfl (own_list h) (G.tail.tail.new hp rfl)
/-- a new tuple -/
theorem end_t {g : Gh} {Pv Pr l2 l1 : PL} {H : Hp} {Q : VK} {ds : List D} {xs : List V} (G : Good g.B (l2 ++ (l1 ++ Pr)) H) (h : Reps g ds xs)
    (q : ∀ v g' H' l', g.le g' → g.as = g'.as → ResR g' (.p (.tup ds)) v l' Pv → Good g'.B (l' ++ Pr) H' → Q v H') : ∀ p, H p = none → Q (.ref p) (upd H p (.tup xs)) := fun p hp => by
  obtain ⟨G2, k⟩ := G.tail.tail.ice (o := .tup xs) hp
  refine q (.ref p) (g.put p (.tup xs)) (upd H p (.tup xs)) [] (.put k) rfl (res_p ?_) G2
  simp only [Rep]
  exact ⟨p, xs, rfl, Gh.put_at, Reps.mono (.put k) _ _ h⟩
theorem mem_l1 {l1 l2 Pr : PL} : ∀ p ∈ l1, p ∈ l2 ++ (l1 ++ Pr) := fun p hp => List.mem_append_right _ (List.mem_append_left _ hp)
theorem mem_l2 {l1 l2 Pr : PL} : ∀ p ∈ l2, p ∈ l2 ++ (l1 ++ Pr) := fun p hp => List.mem_append_left _ hp
theorem bin_int {op : Operator} {C : Int → Int → Prop} [∀ i j, Decidable (C i j)] {f : Int → Int → Int} (o : OpR X (binaryOp op) (rI C fun i j => .int (f i j))) (e : ∀ a b, binS op a b = opInt C f a b) : BinOk X op :=
  ⟨_, o, prim2 fun g a b x y l1 l2 Pv Pr H Q res h1 h2 hv G e' q => by
    rw [e] at e'
    unfold opInt at e'
    split at e'
    · rename_i i ha
      split at e'
      · rename_i j hb
        split at e'
        · rename_i hc
          cases e'
          exact ⟨i, j, res_int h1 ha, res_int h2 hb, hc, end_p G (by simp only [Rep]) q⟩
        · cases e'
      · cases e'
    · cases e'⟩
theorem OpR.more {f : Value → Value → Sem Value} {r r' : R2} (h : OpR X f r) (i : ∀ x y H Q, r' x y H Q → r x y H Q) : OpR X f r' := fun pins s σ H x y v u Q I rx ry q => h pins s σ H x y v u Q I rx ry (i _ _ _ _ q)
theorem bin_sub : BinOk X .Sub := bin_int (C := fun _ _ => True) (OpR.more op_sub fun x y H Q ⟨i, j, h1, h2, _, q⟩ => ⟨i, j, h1, h2, q⟩) fun _ _ => rfl
theorem bin_mod : BinOk X .Mod := bin_int op_mod fun _ _ => rfl
theorem bin_pow : BinOk X .Pow := bin_int (C := fun i j => 0 ≤ j ∧ j ≤ 1000000 ∧ i.natAbs < 2 ^ 64) op_pow fun _ _ => rfl
theorem bin_div : BinOk X .FloorDiv := bin_int (C := fun _ j => 0 < j ∧ j < 2 ^ 200) (OpR.more op_fdivW fun x y H Q ⟨i, j, h1, h2, h3, q⟩ => ⟨i, j, h1, h2, ⟨h3.1, log2_200 h3.1 h3.2⟩, q⟩) fun _ _ => rfl
theorem bin_add : BinOk X .Add := by
  refine ⟨_, op_add.or (op_add_str.or (op_catA.or op_catR)), prim2 fun g a b x y l1 l2 Pv Pr H Q res h1 h2 hv G e q => ?_⟩
  have e : opAdd a b = some res := e
  unfold opAdd at e
  split at e
  · rename_i i ha
    split at e <;> cases e
    rename_i j hb
    exact .inl ⟨i, j, res_int h1 ha, res_int h2 hb, end_p G (by simp only [Rep]) q⟩
  · rename_i i ha
    split at e
    · rename_i j hb
      split at e <;> cases e
      rename_i hz
      refine .inr (.inl ⟨i, j, res_str h1 ha, res_str h2 hb, sizeB_eq ▸ hz, end_p G (by simp only [Rep]) q⟩)
    · cases e
  · rename_i xs ha
    split at e
    · rename_i ys hb
      split at e <;> cases e
      rename_i hz
      obtain ⟨p, vs, rfl, hB1, hH1, q1⟩ := res_tup h1 G ha
      obtain ⟨p2, vs2, rfl, hB2, hH2, q2⟩ := res_tup h2 G hb
      have n1 := q1.length
      have n2 := q2.length
      refine .inr (.inr (.inl ⟨p, p2, vs, vs2, rfl, rfl, SqT.of hH1, SqT.of hH2, by rw [n1, n2, ← sizeB_eq]; exact hz, fun z => ?_, fun _ z => ?_, fun _ _ => end_t G (reps_append q1 q2) q⟩))
      · have e2 : xs = [] := List.eq_nil_of_length_eq_zero (by rw [← n1, z]; rfl)
        subst e2
        refine end_p G ?_ q
        rw [List.nil_append]
        simp only [Rep]
        exact ⟨p2, vs2, rfl, hB2, q2⟩
      · have e2 : ys = [] := List.eq_nil_of_length_eq_zero (by rw [← n2, z]; rfl)
        subst e2
        refine end_p G ?_ q
        rw [List.append_nil]
        simp only [Rep]
        exact ⟨p, vs, rfl, hB1, q1⟩
    · cases e
  · simp only [Option.bind_eq_some_iff] at e
    obtain ⟨xs, e1, ys, e2, e3⟩ := e
    split at e3 <;> cases e3
    rename_i hz
    obtain ⟨p, vs, rfl, hH1, q1⟩ := res_list h1 G mem_l1 hv e1
    obtain ⟨p2, vs2, rfl, hH2, q2⟩ := res_list h2 G mem_l2 hv e2
    refine .inr (.inr (.inr ⟨p, p2, vs, vs2, rfl, rfl, hH1, hH2, by rw [q1.length, q2.length, ← sizeB_eq]; exact hz, end_l G (reps_append q1 q2) q⟩))
theorem bin_mul : BinOk X .Mult := by
  refine ⟨_, op_mul.or op_repR, prim2 fun g a b x y l1 l2 Pv Pr H Q res h1 h2 hv G e q => ?_⟩
  have e : opMul a b = some res := e
  unfold opMul at e
  split at e
  · rename_i j hb
    split at e
    · rename_i i ha
      split at e <;> cases e
      rename_i hc
      exact .inl ⟨i, j, res_int h1 ha, res_int h2 hb, hc, end_p G (by simp only [Rep]) q⟩
    · simp only [Option.bind_eq_some_iff] at e
      obtain ⟨xs, e1, e3⟩ := e
      split at e3 <;> cases e3
      rename_i hz
      obtain ⟨p, vs, rfl, hH1, q1⟩ := res_list h1 G mem_l1 hv e1
      exact .inr ⟨p, j, vs, rfl, res_int h2 hb, hH1, hz.1, hz.2.1, by rw [q1.length, ← sizeB_eq]; exact hz.2.2, end_l G (reps_rep _ q1) q⟩
  · cases e
theorem bin_none {op : Operator} (h : ∀ a b, binS op a b = none) : BinOk X op :=
  ⟨fun _ _ _ _ => False, fun _ _ _ _ _ _ _ _ _ _ _ _ h => h.elim, prim2 fun g a b x y l1 l2 Pv Pr H Q res h1 h2 hv G e q => by rw [h] at e; cases e⟩
theorem bin_ok (op : Operator) : BinOk X op := by
  cases op
  case Add => exact bin_add
  case Sub => exact bin_sub
  case Mult => exact bin_mul
  case FloorDiv => exact bin_div
  case Mod => exact bin_mod
  case Pow => exact bin_pow
  all_goals exact bin_none fun _ _ => rfl
end
end VS

/-! VSg: comparisons. -/
namespace VS
open PySem PySem.Spec PyProof.Rows L2

/-! ### plain data and the library's -/
mutual
def D.py : D → PyData
  | .non => .none
  | .bl b => .bool b
  | .int i => .int i
  | .str x => .str x
  | .tup ds => .tuple (D.pys ds)
  | .lst ds => .list (D.pys ds)
  | _ => .none
def D.pys : List D → List PyData
  | [] => []
  | d :: ds => d.py :: D.pys ds
end
mutual
theorem py_plain : ∀ (n : Nat) (d : D), d.plain n = true → d.py.plain = true ∧ d.py.depth ≤ n
  | n, .non, _ => ⟨rfl, Nat.zero_le _⟩
  | n, .bl _, _ => ⟨rfl, Nat.zero_le _⟩
  | n, .int _, _ => ⟨rfl, Nat.zero_le _⟩
  | n, .str _, _ => ⟨rfl, Nat.zero_le _⟩
  | 0, .tup ds, h => by simp [D.plain] at h
  | 0, .lst ds, h => by simp [D.plain] at h
  | n + 1, .tup ds, h => by
    simp only [D.plain] at h
    obtain ⟨a, b⟩ := pys_plain n ds h
    simp only [D.py, PyData.plain, PyData.depth]
    exact ⟨a, by omega⟩
  | n + 1, .lst ds, h => by
    simp only [D.plain] at h
    obtain ⟨a, b⟩ := pys_plain n ds h
    simp only [D.py, PyData.plain, PyData.depth]
    exact ⟨a, by omega⟩
  | n, .dct _, h => by simp [D.plain] at h
  | n, .obj _, h => by simp [D.plain] at h
  | n, .scr _, h => by simp [D.plain] at h
theorem pys_plain : ∀ (n : Nat) (ds : List D), D.plains n ds = true → PyData.plainAll (D.pys ds) = true ∧ PyData.depthAll (D.pys ds) ≤ n
  | n, [], _ => ⟨rfl, Nat.zero_le _⟩
  | n, d :: ds, h => by
    simp only [D.plains, Bool.and_eq_true] at h
    obtain ⟨a, b⟩ := py_plain n d h.1
    obtain ⟨a2, b2⟩ := pys_plain n ds h.2
    simp only [D.pys, PyData.plainAll, PyData.depthAll, a, a2, Bool.and_self, true_and]
    omega
end
mutual
theorem py_eqv : ∀ (n m : Nat) (d e : D), d.plain n = true → e.plain m = true → PyData.eqv d.py e.py = D.eqv d e
  | n, m, .non, e, _, he => by cases e <;> simp [D.py, PyData.eqv, D.eqv, D.plain] at he ⊢
  | n, m, .bl _, e, _, he => by cases e <;> simp [D.py, PyData.eqv, D.eqv, D.plain, b2i] at he ⊢
  | n, m, .int _, e, _, he => by cases e <;> simp [D.py, PyData.eqv, D.eqv, D.plain, b2i] at he ⊢
  | n, m, .str x, e, _, he => by
    cases e <;> simp [D.py, PyData.eqv, D.eqv, D.plain] at he ⊢
    rw [Bool.beq_eq_decide_eq]
  | 0, m, .tup ds, e, h, _ => by simp [D.plain] at h
  | 0, m, .lst ds, e, h, _ => by simp [D.plain] at h
  | n + 1, 0, .tup ds, e, h, he => by cases e <;> simp [D.py, PyData.eqv, D.eqv, D.plain] at he ⊢
  | n + 1, 0, .lst ds, e, h, he => by cases e <;> simp [D.py, PyData.eqv, D.eqv, D.plain] at he ⊢
  | n + 1, m + 1, .tup ds, e, h, he => by
    simp only [D.plain] at h
    cases e <;> simp [D.py, PyData.eqv, D.eqv, D.plain] at he ⊢
    exact pys_eqv n m ds _ h he
  | n + 1, m + 1, .lst ds, e, h, he => by
    simp only [D.plain] at h
    cases e <;> simp [D.py, PyData.eqv, D.eqv, D.plain] at he ⊢
    exact pys_eqv n m ds _ h he
  | n, m, .dct _, e, h, _ => by simp [D.plain] at h
  | n, m, .obj _, e, h, _ => by simp [D.plain] at h
  | n, m, .scr _, e, h, _ => by simp [D.plain] at h
theorem pys_eqv : ∀ (n m : Nat) (ds es : List D), D.plains n ds = true → D.plains m es = true → PyData.eqvAll (D.pys ds) (D.pys es) = D.eqvs ds es
  | n, m, [], es, _, _ => by cases es <;> simp [D.pys, PyData.eqvAll, D.eqvs]
  | n, m, d :: ds, [], _, _ => by simp [D.pys, PyData.eqvAll, D.eqvs]
  | n, m, d :: ds, e :: es, h, he => by
    simp only [D.plains, Bool.and_eq_true] at h he
    simp only [D.pys, PyData.eqvAll, D.eqvs, py_eqv n m d e h.1 he.1, pys_eqv n m ds es h.2 he.2]
end
theorem pys_map : ∀ ds : List D, D.pys ds = ds.map D.py
  | [] => rfl
  | d :: ds => by simp only [D.pys, List.map_cons, pys_map ds]

section
variable {X : Cx} {pins : List (Addr × Obj)} {σ : L2.St} {H : Hp} {s : Shared} {as : Aux}
mutual
theorem Rep.reads (I : Inv X pins σ H s) : ∀ (n : Nat) (d : D) (v : V) (u : Value), d.plain n = true → Rep ⟨H, as⟩ d v → RelV v u → ∃ bs, Reads s.heap u d.py bs
  | n, .non, v, u, _, h, r => by
    cases rep_non h
    cases r
    exact ⟨_, Reads.none⟩
  | n, .bl b, v, u, _, h, r => by
    cases rep_bl h
    cases r
    exact ⟨_, Reads.bool b⟩
  | n, .int i, v, u, _, h, r => by
    cases rep_int h
    obtain ⟨t, rfl⟩ := r
    exact ⟨_, Reads.int i t⟩
  | n, .str x, v, u, _, h, r => by
    cases rep_str h
    obtain ⟨t, rfl⟩ := r
    exact ⟨_, Reads.str x t⟩
  | 0, .tup ds, v, u, hp, _, _ => by simp [D.plain] at hp
  | 0, .lst ds, v, u, hp, _, _ => by simp [D.plain] at hp
  | n + 1, .tup ds, v, u, hp, h, r => by
    simp only [D.plain] at hp
    simp only [Rep] at h
    obtain ⟨a, xs, rfl, hb, q⟩ := h
    cases r
    obtain ⟨its, rv, ⟨o, ho, hc, k, hd⟩, _⟩ := I.tuple (SqT.of hb)
    obtain ⟨bs, hr⟩ := Reps.reads I n ds _ its hp q rv
    simp only [D.py]
    exact ⟨_, Reads.tuple ho hc hd hr⟩
  | n + 1, .lst ds, v, u, hp, h, r => by
    simp only [D.plain] at hp
    simp only [Rep] at h
    obtain ⟨a, xs, rfl, hb, q⟩ := h
    cases r
    obtain ⟨its, rv, ⟨o, k, ho, hc, _, hd⟩, _⟩ := I.list (show SqL X.K H a xs from .inl hb)
    obtain ⟨bs, hr⟩ := Reps.reads I n ds _ its hp q rv
    simp only [D.py]
    exact ⟨_, Reads.list ho hc hd hr⟩
  | n, .dct _, v, u, hp, _, _ => by simp [D.plain] at hp
  | n, .obj _, v, u, hp, _, _ => by simp [D.plain] at hp
  | n, .scr _, v, u, hp, _, _ => by simp [D.plain] at hp
theorem Reps.reads (I : Inv X pins σ H s) : ∀ (n : Nat) (ds : List D) (vs : List V) (us : List Value), D.plains n ds = true → Reps ⟨H, as⟩ ds vs → Vals vs us → ∃ bs, ReadsAll s.heap us (D.pys ds) bs
  | n, [], vs, us, _, h, r => by
    simp only [Reps] at h
    subst h
    cases r
    exact ⟨_, ReadsAll.nil⟩
  | n, d :: ds, vs, us, hp, h, r => by
    simp only [D.plains, Bool.and_eq_true] at hp
    simp only [Reps] at h
    obtain ⟨x, t, rfl, q1, q2⟩ := h
    cases r with
    | cons r1 r2 =>
      obtain ⟨bs, k1⟩ := Rep.reads I n d _ _ hp.1 q1 r1
      obtain ⟨cs, k2⟩ := Reps.reads I n ds _ _ hp.2 q2 r2
      simp only [D.pys]
      exact ⟨_, ReadsAll.cons k1 k2⟩
end
end
end VS

/-! VSh: dicts read; equality and membership. -/
namespace VS
open PySem PySem.Spec PyProof.Rows L2

/-- a dict to be read at a -/
def DK (H : Hp) (a : Addr) (es : List (Key × V)) : Prop := H a = some (.dK es) ∨ (es ≠ [] ∧ ∃ ob, H a = some (.frz ob (.dK es)))
def DT (H : Hp) (a : Addr) (es : List (List Key × V)) : Prop := H a = some (.dT es) ∨ (es ≠ [] ∧ ∃ ob, H a = some (.frz ob (.dT es)))
theorem DK.rd {H : Hp} {a : Addr} {es : List (Key × V)} (h : DK H a es) : Rd H a (.dK es) := h.elim .inl fun ⟨_, q⟩ => .inr q
theorem DT.rd {H : Hp} {a : Addr} {es : List (List Key × V)} (h : DT H a es) : Rd H a (.dT es) := h.elim .inl fun ⟨_, q⟩ => .inr q
section
variable {g : Gh} {r : R} {v : V} {l Pv P : PL} {H : Hp} {kvs : List (D × D)}
theorem purek_K : ∀ {kfs : List (D × F)} {kvs : List (D × D)} {es : List (Key × V)} {l : PL}, F.purek kfs = some kvs → OwnK g kfs es l → RepK g kvs es ∧ l = []
  | [], kvs, es, l, e, h => by
    simp only [F.purek, Option.some.injEq] at e
    simp only [OwnK] at h
    subst e
    exact ⟨by simp only [RepK]; exact h.1, h.2⟩
  | (k, .d x) :: fs, kvs, es, l, e, h => by
    simp only [F.purek, Option.map_eq_some_iff] at e
    obtain ⟨ds', e1, rfl⟩ := e
    simp only [OwnK] at h
    obtain ⟨j, y, t, l1, l2, rfl, rfl, ek, o1, o2⟩ := h
    obtain ⟨q1, rfl⟩ := purek_K e1 o2
    obtain ⟨rfl, r1⟩ := own_d.mp o1
    exact ⟨by simp only [RepK]; exact ⟨j, y, t, rfl, ek, r1, q1⟩, rfl⟩
  | (_, .lst _) :: _, _, _, _, e, _ => by simp [F.purek] at e
  | (_, .tup _) :: _, _, _, _, e, _ => by simp [F.purek] at e
  | (_, .dct _) :: _, _, _, _, e, _ => by simp [F.purek] at e
theorem purek_T : ∀ {kfs : List (D × F)} {kvs : List (D × D)} {es : List (List Key × V)} {l : PL}, F.purek kfs = some kvs → OwnT g kfs es l → RepT g kvs es ∧ l = []
  | [], kvs, es, l, e, h => by
    simp only [F.purek, Option.some.injEq] at e
    simp only [OwnT] at h
    subst e
    exact ⟨by simp only [RepT]; exact h.1, h.2⟩
  | (k, .d x) :: fs, kvs, es, l, e, h => by
    simp only [F.purek, Option.map_eq_some_iff] at e
    obtain ⟨ds', e1, rfl⟩ := e
    simp only [OwnT] at h
    obtain ⟨j, y, t, l1, l2, rfl, rfl, ek, o1, o2⟩ := h
    obtain ⟨q1, rfl⟩ := purek_T e1 o2
    obtain ⟨rfl, r1⟩ := own_d.mp o1
    exact ⟨by simp only [RepT]; exact ⟨j, y, t, rfl, ek, r1, q1⟩, rfl⟩
  | (_, .lst _) :: _, _, _, _, e, _ => by simp [F.purek] at e
  | (_, .tup _) :: _, _, _, _, e, _ => by simp [F.purek] at e
  | (_, .dct _) :: _, _, _, _, e, _ => by simp [F.purek] at e
theorem purek_data : ∀ {kfs : List (D × F)} {kvs : List (D × D)}, F.purek kfs = some kvs → F.datak kfs = kvs
  | [], _, e => by simp only [F.purek, Option.some.injEq] at e; simp only [F.datak]; exact e
  | (k, .d x) :: fs, _, e => by
    simp only [F.purek, Option.map_eq_some_iff] at e
    obtain ⟨ds', e1, rfl⟩ := e
    simp only [F.datak, F.data, purek_data e1]
  | (_, .lst _) :: _, _, e => by simp [F.purek] at e
  | (_, .tup _) :: _, _, e => by simp [F.purek] at e
  | (_, .dct _) :: _, _, e => by simp [F.purek] at e
theorem isK_data {f : F} (e : f.isK = some kvs) : f.data = .dct kvs := by
  cases f with
  | d x => cases x <;> simp [F.isK] at e; subst e; rfl
  | dct kfs => simp only [F.isK] at e; simp only [F.data, purek_data e]
  | lst _ => simp [F.isK] at e
  | tup _ => simp [F.isK] at e
theorem isL_data {f : F} {ds : List D} (e : f.isL = some ds) : f.data = .lst ds := by
  cases f with
  | d x => cases x <;> simp [F.isL] at e; subst e; rfl
  | lst fs => simp only [F.isL] at e; simp only [F.data, pures_data e]
  | dct _ => simp [F.isL] at e
  | tup _ => simp [F.isL] at e
/-- a dict of pure values -/
theorem res_K (h : ResR g r v l Pv) (G : Good g.B P H) (hl : ∀ p ∈ l, p ∈ P) (hv : ∀ p ∈ Pv, p ∈ P) (e : r.f.isK = some kvs) :
    ∃ a, v = .ref a ∧ ((∃ es, DK H a es ∧ RepK g kvs es) ∨ ∃ es, DT H a es ∧ RepT g kvs es) := by
  obtain ⟨l', o, hl'⟩ := res_own h hl hv
  cases hf : r.f with
  | d x =>
    rw [hf] at e o
    cases x <;> simp only [F.isK, Option.some.injEq, reduceCtorEq] at e
    subst e
    obtain ⟨_, q⟩ := own_d.mp o
    simp only [Rep] at q
    obtain ⟨a, rfl, ⟨es, hb, q⟩ | ⟨es, hb, q⟩⟩ := q
    · refine ⟨a, rfl, .inl ⟨es, ?_, q⟩⟩
      rcases hb with hb | ⟨ob, hb⟩
      · rcases G.sub _ _ hb with k | ⟨k, k2⟩
        · exact .inl k
        · exact .inr ⟨fun z => (by subst z; cases k), k2⟩
      · exact absurd (G.nofrz _ _ _ hb) (by simp [isDict])
    · refine ⟨a, rfl, .inr ⟨es, ?_, q⟩⟩
      rcases hb with hb | ⟨ob, hb⟩
      · rcases G.sub _ _ hb with k | ⟨k, k2⟩
        · exact .inl k
        · exact .inr ⟨fun z => (by subst z; cases k), k2⟩
      · exact absurd (G.nofrz _ _ _ hb) (by simp [isDict])
  | dct kfs =>
    rw [hf] at e o
    simp only [F.isK] at e
    simp only [Own] at o
    obtain ⟨a, ls, rfl, ⟨es, rfl, q⟩ | ⟨es, rfl, q⟩⟩ := o
    · exact ⟨a, rfl, .inl ⟨es, .inl (G.at_ _ (hl' _ List.mem_cons_self)).1, (purek_K e q).1⟩⟩
    · exact ⟨a, rfl, .inr ⟨es, .inl (G.at_ _ (hl' _ List.mem_cons_self)).1, (purek_T e q).1⟩⟩
  | tup fs => rw [hf] at e; simp [F.isK] at e
  | lst fs => rw [hf] at e; simp [F.isK] at e
theorem kD_ne_tD {j : Key} {k : List Key} : kD j ≠ tD k := by cases j <;> simp [kD, tD]
theorem repK_look : ∀ {kvs : List (D × D)} {es : List (Key × V)} (j : Key), RepK g kvs es → (look kvs (kD j) = none ∧ valV es j = none) ∨ ∃ d y, look kvs (kD j) = some d ∧ valV es j = some y ∧ Rep g d y
  | [], es, j, h => by simp only [RepK] at h; subst h; exact .inl ⟨rfl, rfl⟩
  | (k, d) :: r, es, j, h => by
    simp only [RepK] at h
    obtain ⟨i, y, t, rfl, rfl, q1, q2⟩ := h
    by_cases e : i = j
    · subst e
      exact .inr ⟨d, y, by simp [look], valV_pos rfl, q1⟩
    · rw [valV_neg (fun z => e z)]
      have : kD i ≠ kD j := fun z => e (kD_inj z)
      simp only [look, if_neg this]
      exact repK_look j q2
theorem repT_look : ∀ {kvs : List (D × D)} {es : List (List Key × V)} (j : List Key), RepT g kvs es → (look kvs (tD j) = none ∧ valV es j = none) ∨ ∃ d y, look kvs (tD j) = some d ∧ valV es j = some y ∧ Rep g d y
  | [], es, j, h => by simp only [RepT] at h; subst h; exact .inl ⟨rfl, rfl⟩
  | (k, d) :: r, es, j, h => by
    simp only [RepT] at h
    obtain ⟨i, y, t, rfl, rfl, q1, q2⟩ := h
    by_cases e : i = j
    · subst e
      exact .inr ⟨d, y, by simp [look], valV_pos rfl, q1⟩
    · rw [valV_neg (fun z => e z)]
      have : tD i ≠ tD j := fun z => e (tD_inj z)
      simp only [look, if_neg this]
      exact repT_look j q2
theorem repK_tup : ∀ {kvs : List (D × D)} {es : List (Key × V)} (j : List Key), RepK g kvs es → look kvs (tD j) = none
  | [], es, j, h => rfl
  | (k, d) :: r, es, j, h => by
    simp only [RepK] at h
    obtain ⟨i, y, t, rfl, rfl, q1, q2⟩ := h
    simp only [look, if_neg kD_ne_tD]
    exact repK_tup j q2
theorem repT_key : ∀ {kvs : List (D × D)} {es : List (List Key × V)} (j : Key), RepT g kvs es → look kvs (kD j) = none
  | [], es, j, h => rfl
  | (k, d) :: r, es, j, h => by
    simp only [RepT] at h
    obtain ⟨i, y, t, rfl, rfl, q1, q2⟩ := h
    simp only [look, if_neg (Ne.symm kD_ne_tD)]
    exact repT_key j q2
theorem flat_key {d : D} (h : d.flat = true) : ∃ j, d = kD j := by
  cases d <;> simp [D.flat] at h
  · exact ⟨.inl _, rfl⟩
  · exact ⟨.inr _, rfl⟩
theorem flats_key : ∀ {ds : List D}, ds.all D.flat = true → ∃ js : List Key, ds = js.map kD
  | [], _ => ⟨[], rfl⟩
  | d :: ds, h => by
    simp only [List.all_cons, Bool.and_eq_true] at h
    obtain ⟨j, rfl⟩ := flat_key h.1
    obtain ⟨js, rfl⟩ := flats_key h.2
    exact ⟨j :: js, rfl⟩
theorem key_cases {d : D} (h : d.key = true) : (∃ j, d = kD j) ∨ ∃ js, d = tD js := by
  cases d with
  | int i => exact .inl ⟨.inl i, rfl⟩
  | str x => exact .inl ⟨.inr x, rfl⟩
  | tup ds =>
    obtain ⟨js, rfl⟩ := flats_key (show ds.all D.flat = true from h)
    exact .inr ⟨js, rfl⟩
  | _ => simp [D.key] at h
theorem rep_kD {j : Key} (h : Rep g (kD j) v) : v = kV j := by
  cases j with
  | inl i => exact rep_int h
  | inr i => exact rep_str h
theorem reps_kD : ∀ {js : List Key} {xs : List V}, Reps g (js.map kD) xs → xs = js.map kV
  | [], xs, h => by simpa only [List.map_nil, Reps] using h
  | j :: js, xs, h => by
    simp only [List.map_cons, Reps] at h
    obtain ⟨x, t, rfl, q1, q2⟩ := h
    rw [rep_kD q1, reps_kD q2]
    rfl
theorem rep_tD {js : List Key} (h : Rep g (tD js) v) : ∃ b, v = .ref b ∧ g.B b = some (.tup (js.map kV)) := by
  unfold tD at h
  simp only [Rep] at h
  obtain ⟨a, xs, rfl, hb, q⟩ := h
  rw [reps_kD q] at hb
  exact ⟨a, rfl, hb⟩
end

/-! ### a look at a dict, also at one that is empty -/
def DG (H : Hp) (a : Addr) (y : V) (o : Option V) : Prop :=
  DGet H a y o ∨ (∃ (k : List Key) (b : Addr), H a = some (.dK []) ∧ y = .ref b ∧ H b = some (.tup (k.map kV)) ∧ o = none) ∨ ∃ k, H a = some (.dT []) ∧ y = kV k ∧ o = none
section
variable {X : Cx} {pins : List (Addr × Obj)} {σ : L2.St} {H : Hp} {s : Shared} {a : Addr}
theorem upd_self {o : HO} (h : H a = some o) : upd H a o = H := by
  funext b
  by_cases e : b = a
  · subst e; rw [upd_same, h]
  · rw [upd_ne e]
theorem emp_KT {P : Program} {w : World} {h : Heap} {H H' : Hp} (x : ObjOk P w H h a (.dK [])) : ObjOk P w H' h a (.dT []) := by
  obtain ⟨z, hd, vs, r, o, es, ep, h1, h2, h3, h4, h5, h6⟩ := x
  cases r
  have e : es.toList = [] := by
    have := h5.length
    exact List.eq_nil_of_length_eq_zero (by simpa using this)
  exact ⟨z, hd, [], .nil, o, es, ep, h1, h2, h3, e, List.nodup_nil⟩
theorem emp_TK {P : Program} {w : World} {h : Heap} {H H' : Hp} (x : ObjOk P w H h a (.dT [])) : ObjOk P w H' h a (.dK []) := by
  obtain ⟨z, hd, xs, r, o, es, ep, h1, h2, h3, h4, h5⟩ := x
  cases r
  have e : es = #[] := by
    apply Array.ext'
    rw [h4]
    rfl
  subst e
  exact ⟨z, hd, [], .nil, o, #[], ep, h1, h2, h3, by intro i hi; simp at hi, by simp; exact .nil, List.nodup_nil⟩
theorem swapKT (I : Inv X pins σ H s) (h : H a = some (.dK [])) : Inv X pins σ (upd H a (.dT [])) s := by
  have q := I.hok a _ h
  obtain ⟨_, _, _, _, o, _, _, h1, _⟩ := id q
  exact I.write (t' := s.toks) (h' := s.heap) (x := a) (e := a) (by rw [h]; trivial) (.inl rfl) (fun b u _ e => e) ⟨_, h1⟩ (emp_KT q)
theorem swapTK (I : Inv X pins σ H s) (h : H a = some (.dT [])) : Inv X pins σ (upd H a (.dK [])) s := by
  have q := I.hok a _ h
  obtain ⟨_, _, _, _, o, _, _, h1, _⟩ := id q
  exact I.write (t' := s.toks) (h' := s.heap) (x := a) (e := a) (by rw [h]; trivial) (.inl rfl) (fun b u _ e => e) ⟨_, h1⟩ (emp_TK q)
/-- a look by DGet becomes one by DG -/
theorem dg_of {A : Around} {y : V} {o : Option V} {P : Hp → Prop} (g : DG H a y o) (I : Inv X pins σ H s)
    (h : ∀ H', Inv X pins σ H' s → DGet H' a y o → (∀ s', Inv X pins σ H' s' → Inv X pins σ H s') → P H') : ∃ H', P H' := by
  rcases g with g | ⟨k, b, e, rfl, eb, rfl⟩ | ⟨k, e, rfl, rfl⟩
  · exact ⟨H, h H I g fun _ q => q⟩
  · have hb : b ≠ a := fun z => by subst z; rw [e] at eb; cases eb
    refine ⟨upd H a (.dT []), h _ (swapKT I e) (.inr ⟨[], k, b, .inl upd_same, rfl, by rw [upd_ne hb]; exact eb, rfl⟩) fun s' q => ?_⟩
    have q2 := swapTK q (a := a) upd_same
    rwa [upd_upd, upd_self e] at q2
  · refine ⟨upd H a (.dK []), h _ (swapTK I e) (.inl ⟨[], k, .inl upd_same, rfl, rfl⟩) fun s' q => ?_⟩
    have q2 := swapKT q (a := a) upd_same
    rwa [upd_upd, upd_self e] at q2
theorem dg_in (hu : X.A.units + 1 < cLine) : OpR X (compareOp .In) (fun y x H Q => ∃ a o, x = .ref a ∧ DG H a y o ∧ Q (.bl o.isSome) H) := by
  intro pins s σ H y x u v Q I ry rx h
  obtain ⟨a, o, rfl, g, q⟩ := h
  cases rx
  obtain ⟨H', p⟩ := dg_of (A := X.A) (P := fun _ => wpAny (model X.prog X.w) X.A (compareOp .In u (.ref a)) (EP X pins σ Q) X.xe s) g I fun H' I' g' back => d_in hu I' g' ry fun s' I2 => ⟨.bl _, H, back s' I2, rfl, q⟩
  exact p
theorem dg_notIn (hu : X.A.units + 1 < cLine) : OpR X (compareOp .NotIn) (fun y x H Q => ∃ a o, x = .ref a ∧ DG H a y o ∧ Q (.bl (!o.isSome)) H) := by
  intro pins s σ H y x u v Q I ry rx h
  obtain ⟨a, o, rfl, g, q⟩ := h
  cases rx
  obtain ⟨H', p⟩ := dg_of (A := X.A) (P := fun _ => wpAny (model X.prog X.w) X.A (compareOp .NotIn u (.ref a)) (EP X pins σ Q) X.xe s) g I fun H' I' g' back => d_notIn hu I' g' ry fun s' I2 => ⟨.bl _, H, back s' I2, rfl, q⟩
  exact p
end
/-- a look by a key's data -/
theorem repK_kind {g : Gh} {kvs : List (D × D)} {es : List (Key × V)} {js : List Key} (h : RepK g kvs es) (k : kindOk kvs (tD js) = true) : kvs = [] := by
  cases kvs with
  | nil => rfl
  | cons p r =>
    obtain ⟨q, d⟩ := p
    simp only [RepK] at h
    obtain ⟨i, y, t, rfl, rfl, _, _⟩ := h
    cases i <;> simp [kindOk, kD, tD, D.flat] at k
theorem repT_kind {g : Gh} {kvs : List (D × D)} {es : List (List Key × V)} {j : Key} (h : RepT g kvs es) (k : kindOk kvs (kD j) = true) : kvs = [] := by
  cases kvs with
  | nil => rfl
  | cons p r =>
    obtain ⟨q, d⟩ := p
    simp only [RepT] at h
    obtain ⟨i, y, t, rfl, rfl, _, _⟩ := h
    cases j <;> simp [kindOk, kD, tD, D.flat] at k
theorem dg_look {g : Gh} {P : PL} {H : Hp} {a : Addr} {kvs : List (D × D)} {k : D} {y : V} (G : Good g.B P H) (h : (∃ es, DK H a es ∧ RepK g kvs es) ∨ ∃ es, DT H a es ∧ RepT g kvs es) (hk : kindOk kvs k = true) (hy : Rep g k y) :
    (look kvs k = none ∧ DG H a y none) ∨ ∃ d x, look kvs k = some d ∧ DGet H a y (some x) ∧ Rep g d x := by
  have hkey : k.key = true := by
    unfold kindOk at hk
    rw [Bool.and_eq_true] at hk
    exact hk.1
  rcases h with ⟨es, hd, hr⟩ | ⟨es, hd, hr⟩
  · rcases key_cases hkey with ⟨j, rfl⟩ | ⟨js, rfl⟩
    · have ey := rep_kD hy
      rcases repK_look j hr with ⟨e1, e2⟩ | ⟨d, x, e1, e2, q⟩
      · exact .inl ⟨e1, .inl (.inl ⟨es, j, hd.rd, ey, e2.symm⟩)⟩
      · exact .inr ⟨d, x, e1, .inl ⟨es, j, hd.rd, ey, e2.symm⟩, q⟩
    · obtain ⟨b, ey, hb⟩ := rep_tD hy
      have e := repK_kind hr hk
      subst e
      simp only [RepK] at hr
      subst hr
      rcases hd with hd | ⟨z, _⟩
      · exact .inl ⟨rfl, .inr (.inl ⟨js, b, hd, ey, tup_at G hb, rfl⟩)⟩
      · exact absurd rfl z
  · rcases key_cases hkey with ⟨j, rfl⟩ | ⟨js, rfl⟩
    · have ey := rep_kD hy
      have e := repT_kind hr hk
      subst e
      simp only [RepT] at hr
      subst hr
      rcases hd with hd | ⟨z, _⟩
      · exact .inl ⟨rfl, .inr (.inr ⟨j, hd, ey, rfl⟩)⟩
      · exact absurd rfl z
    · obtain ⟨b, ey, hb⟩ := rep_tD hy
      rcases repT_look js hr with ⟨e1, e2⟩ | ⟨d, x, e1, e2, q⟩
      · exact .inl ⟨e1, .inl (.inr ⟨es, js, b, hd.rd, ey, tup_at G hb, e2.symm⟩)⟩
      · exact .inr ⟨d, x, e1, .inr ⟨es, js, b, hd.rd, ey, tup_at G hb, e2.symm⟩, q⟩
end VS

/-! VSi: comparisons, all. -/
namespace VS
open PySem PySem.Spec PyProof.Rows L2
section
variable {X : Cx}
def rEqP : R2 := fun x y H Q => ∃ as d e, Rep ⟨H, as⟩ d x ∧ Rep ⟨H, as⟩ e y ∧ d.plain 40 = true ∧ e.plain 40 = true ∧ Q (.bl (D.eqv d e)) H
def rNeP : R2 := fun x y H Q => ∃ as d e, Rep ⟨H, as⟩ d x ∧ Rep ⟨H, as⟩ e y ∧ d.plain 40 = true ∧ e.plain 40 = true ∧ Q (.bl (!D.eqv d e)) H
theorem op_eqP (hu : X.A.units + 64 < cLine) : OpR X (compareOp .Eq) rEqP := by
  intro pins s σ H x y v u Q I rx ry ⟨as, d, e, h1, h2, p1, p2, q⟩
  obtain ⟨bs, r1⟩ := Rep.reads I 40 d x v p1 h1 rx
  obtain ⟨cs, r2⟩ := Rep.reads I 40 e y u p2 h2 ry
  obtain ⟨a1, a2⟩ := py_plain 40 d p1
  obtain ⟨b1, b2⟩ := py_plain 40 e p2
  refine SeqAt.eq_plain r1 r2 a1 b1 (by omega) ?_
  rw [py_eqv 40 40 d e p1 p2]
  exact ⟨.bl _, H, I, rfl, q⟩
theorem op_neP (hu : X.A.units + 64 < cLine) : OpR X (compareOp .NotEq) rNeP := by
  intro pins s σ H x y v u Q I rx ry ⟨as, d, e, h1, h2, p1, p2, q⟩
  obtain ⟨bs, r1⟩ := Rep.reads I 40 d x v p1 h1 rx
  obtain ⟨cs, r2⟩ := Rep.reads I 40 e y u p2 h2 ry
  obtain ⟨a1, a2⟩ := py_plain 40 d p1
  obtain ⟨b1, b2⟩ := py_plain 40 e p2
  refine SeqAt.ne_plain r1 r2 a1 b1 (by omega) ?_
  rw [py_eqv 40 40 d e p1 p2]
  exact ⟨.bl _, H, I, rfl, q⟩
/-- a dict of flat keys and plain values stands at a -/
def FlatD (H : Hp) (as : Aux) (a : Addr) (kvs : List (D × D)) : Prop := flatK kvs = true ∧ ((∃ es, DK H a es ∧ RepK ⟨H, as⟩ kvs es) ∨ (kvs = [] ∧ DT H a []))
theorem FlatD.obj {P : Program} {w : World} {H : Hp} {h : Heap} {as : Aux} {a : Addr} {kvs : List (D × D)} (x : FlatD H as a kvs) (ok : HOk P w H h) : ∃ es, ObjOk P w H h a (.dK es) ∧ RepK ⟨H, as⟩ kvs es := by
  obtain ⟨_, ⟨es, hd, hr⟩ | ⟨rfl, hd⟩⟩ := x
  · exact ⟨es, hd.rd.ok ok, hr⟩
  · exact ⟨[], emp_TK (H := H) (hd.rd.ok ok), by simp only [RepK]⟩
theorem flat_look : ∀ {kvs : List (D × D)} {k d : D}, flatK kvs = true → look kvs k = some d → d.plain 40 = true
  | [], k, d, _, e => by simp [look] at e
  | (j, x) :: r, k, d, h, e => by
    simp only [flatK, List.all_cons, Bool.and_eq_true] at h
    unfold look at e
    split at e
    · cases e; exact h.1.2
    · exact flat_look (kvs := r) (by simpa only [flatK] using h.2) e
theorem hits_of {pins : List (Addr × Obj)} {σ : L2.St} {H : Hp} {s : Shared} {as : Aux} (I : Inv X pins σ H s) {A : Around} (hu : A.units + 64 < cLine) {kb : List (D × D)} {fs : List (Key × V)} {vb : List (Key × Value)} (rb : RepK ⟨H, as⟩ kb fs) (kb' : KV fs vb) (fb : flatK kb = true) :
    ∀ {ka : List (D × D)} {es : List (Key × V)} {va : List (Key × Value)}, RepK ⟨H, as⟩ ka es → KV es va → flatK ka = true → PySem.W.KeqHits A s vb va (eqvK kb ka)
  | [], es, va, ra, k, _ => by
    simp only [RepK] at ra
    subst ra
    cases k
    exact .nil
  | (k, d) :: ka, es, va, ra, kv, f => by
    simp only [RepK] at ra
    obtain ⟨j, y, t, rfl, rfl, q1, q2⟩ := ra
    cases kv with
    | @cons _ q _ qs h t' =>
      obtain ⟨key, u⟩ := q
      obtain ⟨h1, h2⟩ := h
      have h1 : j = key := h1
      subst h1
      simp only [flatK, List.all_cons, Bool.and_eq_true] at f
      have hv := kb'.val j
      unfold eqvK
      rcases repK_look j rb with ⟨e1, e2⟩ | ⟨e, x, e1, e2, r⟩
      · rw [e1]
        rw [e2] at hv
        exact .miss hv.none_of
      · rw [e1]
        rw [e2] at hv
        obtain ⟨w, hw, rw'⟩ := hv.some_of
        have pe := flat_look fb e1
        obtain ⟨bs, r1⟩ := Rep.reads I 40 d y u f.1.2 q1 h2
        obtain ⟨cs, r2⟩ := Rep.reads I 40 e x w pe r rw'
        obtain ⟨a1, a2⟩ := py_plain 40 d f.1.2
        obtain ⟨b1, b2⟩ := py_plain 40 e pe
        have := SeqAt.eqAt_plain d.py e.py A s u w bs cs r1 r2 a1 b1 (by omega)
        rw [py_eqv 40 40 d e f.1.2 pe] at this
        exact .hit hw this (hits_of I hu rb kb' fb q2 t' (by simpa only [flatK] using f.2))
def rEqK (neg : Bool) : R2 := fun x y H Q => ∃ as a b ka kb, x = .ref a ∧ y = .ref b ∧ FlatD H as a ka ∧ FlatD H as b kb ∧ Q (.bl (if neg then !(ka.length == kb.length && eqvK kb ka) else (ka.length == kb.length && eqvK kb ka))) H
theorem repK_len {g : Gh} : ∀ {kvs : List (D × D)} {es : List (Key × V)}, RepK g kvs es → es.length = kvs.length
  | [], es, h => by simp only [RepK] at h; rw [h]; rfl
  | (k, d) :: r, es, h => by
    simp only [RepK] at h
    obtain ⟨_, _, t, rfl, _, _, q⟩ := h
    simp [repK_len q]
theorem repT_len {g : Gh} : ∀ {kvs : List (D × D)} {es : List (List Key × V)}, RepT g kvs es → es.length = kvs.length
  | [], es, h => by simp only [RepT] at h; rw [h]; rfl
  | (k, d) :: r, es, h => by
    simp only [RepT] at h
    obtain ⟨_, _, t, rfl, _, _, q⟩ := h
    simp [repT_len q]
theorem op_eqK (hu : X.A.units + 70 < cLine) : OpR X (compareOp .Eq) (rEqK false) := by
  intro pins s σ H x y v u Q I rx ry ⟨as, a, b, ka, kb, e1, e2, fa, fb, q⟩
  subst e1 e2
  cases rx
  cases ry
  obtain ⟨es, oa, ra⟩ := fa.obj I.hok
  obtain ⟨fs, ob, rb⟩ := fb.obj I.hok
  obtain ⟨_, ha, va, k1, da⟩ := oa
  obtain ⟨_, hb, vb, k2, db⟩ := ob
  refine PySem.W.keq_eq ha hb da db (by omega) (fun _ => hits_of I (by show X.A.units + 1 + 64 < cLine; omega) rb k2 fb.1 ra k1 fa.1) ?_
  rw [← k1.length, ← k2.length, repK_len ra, repK_len rb]
  exact ⟨.bl _, H, I, rfl, q⟩
theorem op_neK (hu : X.A.units + 70 < cLine) : OpR X (compareOp .NotEq) (rEqK true) := by
  intro pins s σ H x y v u Q I rx ry ⟨as, a, b, ka, kb, e1, e2, fa, fb, q⟩
  subst e1 e2
  cases rx
  cases ry
  obtain ⟨es, oa, ra⟩ := fa.obj I.hok
  obtain ⟨fs, ob, rb⟩ := fb.obj I.hok
  obtain ⟨_, ha, va, k1, da⟩ := oa
  obtain ⟨_, hb, vb, k2, db⟩ := ob
  refine PySem.W.keq_ne ha hb da db (by omega) (fun _ => hits_of I (by show X.A.units + 1 + 64 < cLine; omega) rb k2 fb.1 ra k1 fa.1) ?_
  rw [← k1.length, ← k2.length, repK_len ra, repK_len rb]
  exact ⟨.bl _, H, I, rfl, q⟩
def rInP (neg : Bool) : R2 := fun x y H Q => ∃ as d ds, Rep ⟨H, as⟩ d x ∧ (Rep ⟨H, as⟩ (.lst ds) y ∨ Rep ⟨H, as⟩ (.tup ds) y) ∧ d.plain 40 = true ∧ D.plains 40 ds = true ∧ Q (.bl (if neg then !(ds.any fun z => D.eqv z d) else ds.any fun z => D.eqv z d)) H
theorem any_py {d : D} {ds : List D} (h1 : d.plain 40 = true) (h2 : D.plains 40 ds = true) : ((D.pys ds).any fun y => PyData.eqv y d.py) = ds.any fun z => D.eqv z d := by
  induction ds with
  | nil => rfl
  | cons x r ih =>
    simp only [D.plains, Bool.and_eq_true] at h2
    simp only [D.pys, List.any_cons, py_eqv 40 40 x d h2.1 h1, ih h2.2]
theorem op_inP (hu : X.A.units + 70 < cLine) : OpR X (compareOp .In) (rInP false) := by
  intro pins s σ H x y v u Q I rx ry ⟨as, d, ds, h1, h2, p1, p2, q⟩
  obtain ⟨bs, r1⟩ := Rep.reads I 40 d x v p1 h1 rx
  obtain ⟨a1, a2⟩ := py_plain 40 d p1
  obtain ⟨b1, b2⟩ := pys_plain 40 ds p2
  have fin : EP X pins σ Q (.bool ((D.pys ds).any fun y => PyData.eqv y d.py)) s := by
    rw [any_py p1 p2]
    exact ⟨.bl _, H, I, rfl, q⟩
  rcases h2 with h2 | h2
  · obtain ⟨cs, r2⟩ := Rep.reads I 41 (.lst ds) y u (by simpa [D.plain] using p2) h2 ry
    simp only [D.py] at r2
    exact SeqAt.in_list_data r2 r1 b1 a1 (by omega) fin
  · obtain ⟨cs, r2⟩ := Rep.reads I 41 (.tup ds) y u (by simpa [D.plain] using p2) h2 ry
    simp only [D.py] at r2
    exact SeqAt.in_tuple_data r2 r1 b1 a1 (by omega) fin
theorem op_notInP (hu : X.A.units + 70 < cLine) : OpR X (compareOp .NotIn) (rInP true) := by
  intro pins s σ H x y v u Q I rx ry ⟨as, d, ds, h1, h2, p1, p2, q⟩
  obtain ⟨bs, r1⟩ := Rep.reads I 40 d x v p1 h1 rx
  obtain ⟨a1, a2⟩ := py_plain 40 d p1
  obtain ⟨b1, b2⟩ := pys_plain 40 ds p2
  have fin : EP X pins σ Q (.bool (!(D.pys ds).any fun y => PyData.eqv y d.py)) s := by
    rw [any_py p1 p2]
    exact ⟨.bl _, H, I, rfl, q⟩
  rcases h2 with h2 | h2
  · obtain ⟨cs, r2⟩ := Rep.reads I 41 (.lst ds) y u (by simpa [D.plain] using p2) h2 ry
    simp only [D.py] at r2
    exact SeqAt.notIn_list_data r2 r1 b1 a1 (by omega) fin
  · obtain ⟨cs, r2⟩ := Rep.reads I 41 (.tup ds) y u (by simpa [D.plain] using p2) h2 ry
    simp only [D.py] at r2
    exact SeqAt.notIn_tuple_data r2 r1 b1 a1 (by omega) fin
end
def cmpR (op : CmpOp) (a b : R) : Option R := (cmpS op a b).map fun b => .p (.bl b)
abbrev CmpOk (X : Cx) (op : CmpOp) : Prop := ∃ r, OpR X (compareOp op) r ∧ PrimR ResR (sem2 (cmpR op)) (r2L r)
section
variable {X : Cx}
theorem end_b {g : Gh} {Pv Pr l2 l1 : PL} {H : Hp} {Q : VK} {b : Bool} (G : Good g.B (l2 ++ (l1 ++ Pr)) H)
    (q : ∀ v g' H' l', g.le g' → g.as = g'.as → ResR g' (.p (.bl b)) v l' Pv → Good g'.B (l' ++ Pr) H' → Q v H') : Q (.bl b) H := end_p G (by simp only [Rep]) q
theorem flatD_of {g : Gh} {P : PL} {H : Hp} {a : Addr} {kvs : List (D × D)} (G : Good g.B P H) (hf : flatK kvs = true) (h : (∃ es, DK H a es ∧ RepK g kvs es) ∨ ∃ es, DT H a es ∧ RepT g kvs es) : FlatD H g.as a kvs := by
  refine ⟨hf, ?_⟩
  rcases h with ⟨es, h1, h2⟩ | ⟨es, h1, h2⟩
  · exact .inl ⟨es, h1, RepK.see (g := g) (g' := ⟨H, g.as⟩) G.sees _ _ h2⟩
  · cases kvs with
    | nil =>
      simp only [RepT] at h2
      subst h2
      exact .inr ⟨rfl, h1⟩
    | cons p r =>
      obtain ⟨k, d⟩ := p
      simp only [RepT] at h2
      obtain ⟨j, _, _, _, rfl, _, _⟩ := h2
      simp [flatK, tD, D.flat] at hf
/-- the comparison of data (Eq, NotEq) -/
theorem cmp_eq (hu : X.A.units + 70 < cLine) : CmpOk X .Eq := by
  refine ⟨_, (op_eqP (by omega)).or (op_eqK hu), prim2 fun g a b x y l1 l2 Pv Pr H Q res h1 h2 hv G e0 q => ?_⟩
  obtain ⟨c, e, rfl⟩ := Option.map_eq_some_iff.mp (show (eqS a b).map (fun b => R.p (.bl b)) = some res from e0)
  clear e0
  have k1 := h1.look G mem_l1 hv
  have k2 := h2.look G mem_l2 hv
  unfold eqS at e
  split at e
  · rename_i hp
    simp only [Bool.and_eq_true] at hp
    cases e
    exact .inl ⟨g.as, _, _, k1, k2, hp.1, hp.2, end_b G q⟩
  · simp only [Option.bind_eq_some_iff] at e
    obtain ⟨ka, ea, kb, eb, e⟩ := e
    split at e <;> cases e
    rename_i hf
    simp only [Bool.and_eq_true] at hf
    obtain ⟨p1, rfl, f1⟩ := res_K h1 G mem_l1 hv ea
    obtain ⟨p2, rfl, f2⟩ := res_K h2 G mem_l2 hv eb
    exact .inr ⟨g.as, p1, p2, ka, kb, rfl, rfl, flatD_of G hf.1 f1, flatD_of G hf.2 f2, end_b G q⟩
theorem cmp_ne (hu : X.A.units + 70 < cLine) : CmpOk X .NotEq := by
  refine ⟨_, (op_neP (by omega)).or (op_neK hu), prim2 fun g a b x y l1 l2 Pv Pr H Q res h1 h2 hv G e0 q => ?_⟩
  obtain ⟨c0, e1, rfl⟩ := Option.map_eq_some_iff.mp (show ((eqS a b).map (!·)).map (fun b => R.p (.bl b)) = some res from e0)
  obtain ⟨c, e, rfl⟩ := Option.map_eq_some_iff.mp e1
  clear e0 e1
  have k1 := h1.look G mem_l1 hv
  have k2 := h2.look G mem_l2 hv
  unfold eqS at e
  split at e
  · rename_i hp
    simp only [Bool.and_eq_true] at hp
    cases e
    exact .inl ⟨g.as, _, _, k1, k2, hp.1, hp.2, end_b G q⟩
  · simp only [Option.bind_eq_some_iff] at e
    obtain ⟨ka, ea, kb, eb, e⟩ := e
    split at e <;> cases e
    rename_i hf
    simp only [Bool.and_eq_true] at hf
    obtain ⟨p1, rfl, f1⟩ := res_K h1 G mem_l1 hv ea
    obtain ⟨p2, rfl, f2⟩ := res_K h2 G mem_l2 hv eb
    exact .inr ⟨g.as, p1, p2, ka, kb, rfl, rfl, flatD_of G hf.1 f1, flatD_of G hf.2 f2, end_b G q⟩
def rInS (neg : Bool) : R2 := fun x y H Q => ∃ i j, x = .str i ∧ y = .str j ∧ Q (.bl (if neg then !(!(Builtin.Str.occurrences j i 0 j.length 1).isEmpty) else !(Builtin.Str.occurrences j i 0 j.length 1).isEmpty)) H
def rInK (neg : Bool) : R2 := fun y x H Q => ∃ a o, x = .ref a ∧ DG H a y o ∧ Q (.bl (if neg then !o.isSome else o.isSome)) H
theorem pd_f {r : R} {x : D} (h : r.pd = some x) : r.f = .d x := by
  unfold R.pd at h
  split at h
  · rename_i y hy; cases h; exact hy
  · cases h
theorem rep_isN {g : Gh} {d : D} {v : V} (h : Rep g d v) : decide (v = V.non) = decide (d = .non) := by
  cases d <;> simp only [Rep] at h
  · subst h; rfl
  · subst h; simp
  · subst h; simp
  · subst h; simp
  · obtain ⟨a, xs, rfl, _⟩ := h; simp
  · obtain ⟨a, xs, rfl, _⟩ := h; simp
  · obtain ⟨a, rfl, _⟩ := h; simp
  · obtain ⟨a, _, rfl⟩ := h; simp
  · obtain ⟨a, rfl, _⟩ := h; simp
/-- In and NotIn by one text -/
theorem in_part (neg : Bool) : PrimR ResR (sem2 fun a b => (inS a b).map fun c => .p (.bl (if neg then !c else c))) (r2L fun x y H Q => rInS neg x y H Q ∨ rInP neg x y H Q ∨ rInK neg x y H Q) := by
  refine prim2 fun g a b x y l1 l2 Pv Pr H Q res h1 h2 hv G e0 q => ?_
  obtain ⟨c, e, rfl⟩ := Option.map_eq_some_iff.mp e0
  clear e0
  have k1 := h1.look G mem_l1 hv
  unfold inS at e
  split at e
  · rename_i z ez
    split at e <;> cases e
    rename_i z2 ez2
    exact .inl ⟨z2, z, res_str h1 (data_str ez2), res_str h2 ez, end_b G q⟩
  · split at e
    · rename_i ds eds
      split at e <;> cases e
      rename_i hp
      simp only [Bool.and_eq_true] at hp
      have k2 := h2.look G mem_l2 hv
      refine .inr (.inl ⟨g.as, a.data, ds, k1, ?_, hp.1, hp.2, end_b G q⟩)
      rcases isLT_cases eds with z | z
      · exact .inr (by rw [show b.data = .tup ds by unfold R.data; rw [z]; rfl] at k2; exact k2)
      · exact .inl (by rw [show b.data = .lst ds from isL_data z] at k2; exact k2)
    · simp only [Option.bind_eq_some_iff] at e
      obtain ⟨kvs, ek, k, epd, e⟩ := e
      split at e <;> cases e
      rename_i hk
      obtain ⟨p, rfl, f⟩ := res_K h2 G mem_l2 hv ek
      refine .inr (.inr ?_)
      rcases dg_look G f hk (res_rep h1 (pd_f epd)) with ⟨e1, e2⟩ | ⟨d2, x2, e1, e2, _⟩
      · refine ⟨p, none, rfl, e2, ?_⟩
        rw [e1] at q
        exact end_b G q
      · refine ⟨p, some x2, rfl, .inl e2, ?_⟩
        rw [e1] at q
        exact end_b G q
theorem cmp_in (hu : X.A.units + 70 < cLine) : CmpOk X .In :=
  ⟨_, (show OpR X (compareOp .In) (rInS false) from op_in_str).or ((op_inP hu).or (show OpR X (compareOp .In) (rInK false) from dg_in (by omega))), in_part false⟩
theorem cmp_notIn (hu : X.A.units + 70 < cLine) : CmpOk X .NotIn := by
  refine ⟨_, (show OpR X (compareOp .NotIn) (rInS true) from op_notin_str).or ((op_notInP hu).or (show OpR X (compareOp .NotIn) (rInK true) from dg_notIn (by omega))), ?_⟩
  have := in_part true
  intro g rs vs l Pv Pr H Q res hr hv G e q
  refine this g rs vs l Pv Pr H Q res hr hv G ?_ q
  rw [← e]
  unfold cmpR cmpS
  match rs with
  | [a, b] => show (inS a b).map _ = ((inS a b).map _).map _; rw [Option.map_map]; rfl
  | [] => rfl
  | [_] => rfl
  | _ :: _ :: _ :: _ => rfl
theorem cmp_is : CmpOk X .Is := by
  refine ⟨_, op_isN, prim2 fun g a b x y l1 l2 Pv Pr H Q res h1 h2 hv G e0 q => ?_⟩
  obtain ⟨c, e, rfl⟩ := Option.map_eq_some_iff.mp (show (cmpS .Is a b).map (fun b => R.p (.bl b)) = some res from e0)
  clear e0
  simp only [cmpS] at e
  split at e <;> cases e
  rename_i hb
  have k1 := h1.look G mem_l1 hv
  refine ⟨rep_non (res_rep h2 (data_non hb)), ?_⟩
  rw [rep_isN k1]
  exact end_b G q
theorem cmp_isNot : CmpOk X .IsNot := by
  refine ⟨_, op_notN, prim2 fun g a b x y l1 l2 Pv Pr H Q res h1 h2 hv G e0 q => ?_⟩
  obtain ⟨c, e, rfl⟩ := Option.map_eq_some_iff.mp (show (cmpS .IsNot a b).map (fun b => R.p (.bl b)) = some res from e0)
  clear e0
  simp only [cmpS] at e
  split at e <;> cases e
  rename_i hb
  have k1 := h1.look G mem_l1 hv
  refine ⟨rep_non (res_rep h2 (data_non hb)), ?_⟩
  rw [rep_isN k1]
  exact end_b G q
theorem cmp_ord {op : CmpOp} {c : Int → Int → Bool} (o : OpR X (compareOp op) (rI0 fun i j => .bl (c i j))) (e : ∀ a b, cmpS op a b = match a.data, b.data with | .int i, .int j => some (c i j) | _, _ => none) : CmpOk X op := by
  refine ⟨_, o, prim2 fun g a b x y l1 l2 Pv Pr H Q res h1 h2 hv G e0 q => ?_⟩
  obtain ⟨c, e1, rfl⟩ := Option.map_eq_some_iff.mp (show (cmpS op a b).map (fun b => R.p (.bl b)) = some res from e0)
  clear e0
  rw [e] at e1
  split at e1 <;> cases e1
  rename_i i j ha hb
  exact ⟨i, j, res_int h1 (data_int ha), res_int h2 (data_int hb), end_b G q⟩
theorem cmp_lt : CmpOk X .Lt := by
  refine ⟨_, op_lt.or op_lt_str, prim2 fun g a b x y l1 l2 Pv Pr H Q res h1 h2 hv G e0 q => ?_⟩
  obtain ⟨c, e1, rfl⟩ := Option.map_eq_some_iff.mp (show (cmpS .Lt a b).map (fun b => R.p (.bl b)) = some res from e0)
  clear e0
  simp only [cmpS] at e1
  split at e1 <;> cases e1
  · rename_i i j ha hb
    exact .inl ⟨i, j, res_int h1 (data_int ha), res_int h2 (data_int hb), end_b G q⟩
  · rename_i i j ha hb
    exact .inr ⟨i, j, res_str h1 (data_str ha), res_str h2 (data_str hb), end_b G q⟩
theorem cmp_ok (hu : X.A.units + 70 < cLine) (op : CmpOp) : CmpOk X op := by
  cases op
  · exact cmp_eq hu
  · exact cmp_ne hu
  · exact cmp_lt
  · exact cmp_ord op_le fun _ _ => rfl
  · exact cmp_ord op_gt fun _ _ => rfl
  · exact cmp_ord op_ge fun _ _ => rfl
  · exact cmp_is
  · exact cmp_isNot
  · exact cmp_in hu
  · exact cmp_notIn hu
end
end VS

/-! VSj: subscripts, slices, built-in calls, methods. -/
namespace VS
open PySem PySem.Spec PyProof.Rows L2
/-- a prim of one argument -/
theorem prim1 {f : R → Option R} {r : List V → Hp → VK → Prop}
    (h : ∀ (g : Gh) (a : R) (x : V) (l1 Pv Pr : PL) (H : Hp) (Q : VK) (res : R), ResR g a x l1 Pv → (∀ p ∈ Pv, p ∈ l1 ++ Pr) → Good g.B (l1 ++ Pr) H → f a = some res →
      (∀ v g' H' l', g.le g' → g.as = g'.as → ResR g' res v l' Pv → Good g'.B (l' ++ Pr) H' → Q v H') → r [x] H Q) : PrimR ResR (sem1 f) r := by
  intro g rs vs l Pv Pr H Q res hr hv G e q
  match rs, e with
  | [a], e =>
    obtain ⟨x, t, l1, l2, rfl, rfl, q1, rfl, rfl⟩ := hr
    exact h g a x l1 Pv Pr H Q res q1 (fun p hp => List.mem_append_right _ (hv p hp)) G e q
  | [], e => simp [sem1] at e
  | _ :: _ :: _, e => simp [sem1] at e
theorem mem_l {l1 Pr : PL} : ∀ p ∈ l1, p ∈ l1 ++ Pr := fun p hp => List.mem_append_left _ hp
theorem prim3 {f : R → R → R → Option R} {r : List V → Hp → VK → Prop}
    (h : ∀ (g : Gh) (a b c : R) (x y z : V) (l1 l2 l3 Pv Pr : PL) (H : Hp) (Q : VK) (res : R), ResR g a x l1 Pv → ResR g b y l2 Pv → ResR g c z l3 Pv → (∀ p ∈ Pv, p ∈ l3 ++ (l2 ++ (l1 ++ Pr))) → Good g.B (l3 ++ (l2 ++ (l1 ++ Pr))) H → f a b c = some res →
      (∀ v g' H' l', g.le g' → g.as = g'.as → ResR g' res v l' Pv → Good g'.B (l' ++ Pr) H' → Q v H') → r [x, y, z] H Q) : PrimR ResR (sem3 f) r := by
  intro g rs vs l Pv Pr H Q res hr hv G e q
  match rs, e with
  | [a, b, c], e =>
    obtain ⟨x, t, l1, l2, rfl, rfl, q1, y, t2, l3, l4, rfl, rfl, q2, z, t3, l5, l6, rfl, rfl, q3, rfl, rfl⟩ := hr
    refine h g a b c x y z l1 l3 l5 Pv Pr H Q res q1 q2 q3 (fun p hp => List.mem_append_right _ (List.mem_append_right _ (List.mem_append_right _ (hv p hp)))) ?_ e q
    simpa [List.append_assoc] using G
  | [], e => simp [sem3] at e
  | [_], e => simp [sem3] at e
  | [_, _], e => simp [sem3] at e
  | _ :: _ :: _ :: _ :: _, e => simp [sem3] at e
section
variable {X : Cx}
/-! ### subscripts -/
def rIxD : R2 := fun x y H Q => ∃ a v, x = .ref a ∧ DGet H a y (some v) ∧ Q v H
theorem ix_dict (hu : X.A.units + 1 < cLine) : IxR X rIxD := by
  intro value slice pins s σ H x y v u Q I rx ry h hs
  obtain ⟨a, w, rfl, g, q⟩ := h
  cases rx
  exact tail_any (dict_typeIs I g) PySem.F.slot_dict_getitem.lookup (d_getItem hu I g ry fun w' s' I' rw' => ⟨w, H, I', rw', q⟩) hs
theorem atI_reps {g : Gh} {ds : List D} {xs : List V} {i : Int} {d : D} (h : Reps g ds xs) (e : atI ds i = some d) : ∃ x, atI xs i = some x ∧ Rep g d x := by
  unfold atI at e ⊢
  rw [h.length]
  obtain ⟨j, e1, e2⟩ := Option.bind_eq_some_iff.mp e
  obtain ⟨x, e3, q⟩ := reps_get j h e2
  exact ⟨x, by rw [e1]; exact e3, q⟩
theorem sub_ok (hu : X.A.units + 1 < cLine) : ∃ r, IxR X r ∧ PrimR ResR (sem2 subS) (r2L r) := by
  refine ⟨_, ix_list.or (ix_tup.or (ix_str.or (ix_dict hu))), prim2 fun g a b x y l1 l2 Pv Pr H Q res h1 h2 hv G e q => ?_⟩
  unfold subS at e
  split at e
  · rename_i z ez
    split at e
    · rename_i k hk
      split at e
      · rename_i hz
        obtain ⟨c, hc, rfl⟩ := Option.map_eq_some_iff.mp e
        exact .inr (.inr (.inl ⟨z, k, c, res_str h1 ez, res_int h2 (data_int hk), sizeB_eq ▸ hz, hc, end_p G (by simp only [Rep]) q⟩))
      · cases e
    · cases e
  · split at e
    · rename_i ds eds
      split at e
      · rename_i k hk
        obtain ⟨d, hd, rfl⟩ := Option.map_eq_some_iff.mp e
        obtain ⟨p, xs, rfl, hp, hr⟩ := res_seq h1 G mem_l1 hv eds
        obtain ⟨w, hw, rw'⟩ := atI_reps hr hd
        rcases hp with hp | hp
        · exact .inl ⟨p, xs, k, w, rfl, res_int h2 (data_int hk), .inl hp, hw, end_p G rw' q⟩
        · exact .inr (.inl ⟨p, xs, k, w, rfl, res_int h2 (data_int hk), SqT.of hp, hw, end_p G rw' q⟩)
      · cases e
    · simp only [Option.bind_eq_some_iff] at e
      obtain ⟨kvs, ek, k, epd, e⟩ := e
      split at e
      · rename_i hk
        obtain ⟨d, hd, rfl⟩ := Option.map_eq_some_iff.mp e
        obtain ⟨p, rfl, f⟩ := res_K h1 G mem_l1 hv ek
        rcases dg_look G f hk (res_rep h2 (pd_f epd)) with ⟨e1, e2⟩ | ⟨d2, x2, e1, e2, r2⟩
        · rw [e1] at hd; cases hd
        · rw [e1] at hd; cases hd
          exact .inr (.inr (.inr ⟨p, x2, rfl, e2, end_p G r2 q⟩))
      · cases e
/-! ### slices -/
theorem reps_slice {g : Gh} {ds : List D} {xs : List V} (lo hi : Option Int) (h : Reps g ds xs) : Reps g (sliceD ds lo hi) (cutV xs lo hi) := by
  unfold sliceD cutV
  rw [h.length]
  exact reps_take _ (reps_drop _ h)
theorem slice_ok : ∃ r, SlR X r ∧ ∀ lo hi, PrimR ResR (sem1 fun a => sliceS a lo hi) (fun vs H Q => ∃ x, vs = [x] ∧ r x lo hi H Q) := by
  refine ⟨_, sl_list.or (sl_tupA.or sl_str), fun lo hi => prim1 fun g a x l1 Pv Pr H Q res h1 hv G e q => ⟨x, rfl, ?_⟩⟩
  unfold sliceS at e
  split at e
  · rename_i z ez
    split at e <;> cases e
    rename_i hz
    exact .inr (.inr ⟨z, res_str h1 ez, sizeB_eq ▸ hz, end_p (l2 := []) G (by simp only [Rep]) q⟩)
  · rename_i ds ez
    cases e
    obtain ⟨p, xs, rfl, hB, hH, hr⟩ := res_tup h1 G ez
    refine .inr (.inl ⟨p, xs, rfl, SqT.of hH, fun hw => ?_, fun _ => end_t (l2 := []) G (reps_slice lo hi hr) q⟩)
    refine end_p (l2 := []) G ?_ q
    have e2 : sliceD ds lo hi = ds := by
      unfold sliceD
      rw [hr.length] at hw
      rw [hw.1, hw.2]
      simp
    rw [e2]
    simp only [Rep]
    exact ⟨p, xs, rfl, hB, hr⟩
  · obtain ⟨ds, ed, rfl⟩ := Option.map_eq_some_iff.mp e
    obtain ⟨p, xs, rfl, hp, hr⟩ := res_list h1 G mem_l hv ed
    exact .inl ⟨p, xs, rfl, .inl hp, end_l (l2 := []) G (reps_slice lo hi hr) q⟩
/-! ### built-ins -/
def Bi.val : Bi → Value
  | .len => .builtin "len" | .int => .type "int" | .str => .type "str" | .abs => .builtin "abs" | .min => .builtin "min" | .max => .builtin "max" | .min2 => .builtin "min" | .max2 => .builtin "max"
  | .sum => .builtin "sum" | .all => .builtin "all" | .any => .builtin "any" | .list => .type "list" | .tuple => .type "tuple" | .dict => .type "dict"
abbrev BiOk (X : Cx) (b : Bi) : Prop := ∃ r, CallR X b.val r ∧ PrimR ResR (biS b) r
theorem len_dK : CallR X (.builtin "len") (fun xs H Q => ∃ p kvs, xs = [V.ref p] ∧ Rd H p (.dK kvs) ∧ Q (.int ((kvs.length : Nat) : Int)) H) := by
  intro pins s σ H xs us Q I r ⟨p, kvs, e, hp, q⟩
  subst e
  obtain ⟨u, rfl, rx⟩ := vals1 r
  obtain rfl : u = .ref p := rx
  exact d_len I hp fun t s' I' => ⟨.int _, H, I', ⟨t, rfl⟩, q⟩
theorem len_dT : CallR X (.builtin "len") (fun xs H Q => ∃ p kvs, xs = [V.ref p] ∧ Rd H p (.dT kvs) ∧ Q (.int ((kvs.length : Nat) : Int)) H) := by
  intro pins s σ H xs us Q I r ⟨p, kvs, e, hp, q⟩
  subst e
  obtain ⟨u, rfl, rx⟩ := vals1 r
  obtain rfl : u = .ref p := rx
  obtain ⟨z, hd, ys, rel, dd⟩ := dt_rd I.hok hp
  have hl : kvs.length = ys.length := Paired.length rel
  refine call_len_dictH hd dd (by rw [← hl]; rw [sizeLine_eq] at z; omega) ?_
  exact ⟨.int _, H, I.tok _, ⟨_, by rw [hl]⟩, q⟩
theorem own_len {g : Gh} : ∀ {fs : List F} {xs : List V} {l : PL}, Owns g fs xs l → xs.length = fs.length
  | [], _, _, h => by simp only [Owns] at h; rw [h.1]; rfl
  | f :: fs, _, _, h => by
    simp only [Owns] at h
    obtain ⟨x, t, l1, l2, rfl, _, _, q⟩ := h
    simp [own_len q]
theorem bi_len : BiOk X .len := by
  refine ⟨_, call_len_str.or (call_len_seq.or (len_dK.or len_dT)), prim1 fun g a x l1 Pv Pr H Q res h1 hv G e q => ?_⟩
  unfold lenS at e
  split at e
  · rename_i z ez
    split at e <;> cases e
    rename_i hz
    exact .inl ⟨z, by rw [res_str h1 ez], sizeB_eq ▸ hz, end_p (l2 := []) G (by simp only [Rep]) q⟩
  · split at e
    · rename_i ds eds
      cases e
      obtain ⟨p, xs, rfl, hp, hr⟩ := res_seq h1 G mem_l hv eds
      refine .inr (.inl ⟨p, xs, rfl, ?_, by rw [hr.length]; exact end_p (l2 := []) G (by simp only [Rep]) q⟩)
      rcases hp with hp | hp
      · exact .inl (.inl hp)
      · exact .inr (SqT.of hp)
    · split at e
      · rename_i fs ef
        cases e
        obtain ⟨l', o, hl'⟩ := res_own h1 mem_l hv
        rw [ef] at o
        simp only [Own] at o
        obtain ⟨p, xs, ls, rfl, rfl, o⟩ := o
        refine .inr (.inl ⟨p, xs, rfl, .inl (.inl (.inl (G.at_ _ (hl' _ List.mem_cons_self)).1)), by rw [own_len o]; exact end_p (l2 := []) G (by simp only [Rep]) q⟩)
      · obtain ⟨kvs, ek, rfl⟩ := Option.map_eq_some_iff.mp e
        obtain ⟨p, rfl, ⟨es, hd, hr⟩ | ⟨es, hd, hr⟩⟩ := res_K h1 G mem_l hv ek
        · exact .inr (.inr (.inl ⟨p, es, rfl, hd.rd, by rw [repK_len hr]; exact end_p (l2 := []) G (by simp only [Rep]) q⟩))
        · exact .inr (.inr (.inr ⟨p, es, rfl, hd.rd, by rw [repT_len hr]; exact end_p (l2 := []) G (by simp only [Rep]) q⟩))
theorem bi_int : BiOk X .int := by
  refine ⟨_, call_int1, prim1 fun g a x l1 Pv Pr H Q res h1 hv G e q => ?_⟩
  unfold intS at e
  split at e <;> cases e
  · rename_i i ei
    exact .inl ⟨i, by rw [res_int h1 ei], end_p (l2 := []) G (by simp only [Rep]) q⟩
  · rename_i b eb
    exact .inr ⟨b, by rw [rep_bl (res_rep h1 eb)], end_p (l2 := []) G (by simp only [Rep, b2i]) q⟩
theorem bi_str : BiOk X .str := by
  refine ⟨_, call_str_int.or SkE.call_str_str, prim1 fun g a x l1 Pv Pr H Q res h1 hv G e q => ?_⟩
  unfold strS at e
  split at e
  · rename_i i ei
    split at e <;> cases e
    rename_i hz
    exact .inl ⟨i, by rw [res_int h1 ei], hz, end_p (l2 := []) G (by simp only [Rep]) q⟩
  · rename_i z ez
    cases e
    exact .inr ⟨z, by rw [res_str h1 ez], end_p (l2 := []) G (by simp only [Rep]) q⟩
  · cases e
theorem bi_abs : BiOk X .abs := by
  refine ⟨_, call_abs, prim1 fun g a x l1 Pv Pr H Q res h1 hv G e q => ?_⟩
  unfold absS at e
  split at e <;> cases e
  rename_i i ei
  exact ⟨i, by rw [res_int h1 ei], end_p (l2 := []) G (by simp only [Rep]) q⟩
theorem prim2b {f : R → R → Option R} {r : List V → Hp → VK → Prop} (h : PrimR ResR (sem2 f) (r2L fun x y H Q => r [x, y] H Q)) : PrimR ResR (sem2 f) r := by
  intro g rs vs l Pv Pr H Q res hr hv G e q
  obtain ⟨x, y, rfl, h⟩ := h g rs vs l Pv Pr H Q res hr hv G e q
  exact h
theorem bi_max2 (hc : X.calm = true) : BiOk X .max2 := by
  refine ⟨_, call_max2 hc, prim2b (prim2 fun g a b x y l1 l2 Pv Pr H Q res h1 h2 hv G e q => ?_)⟩
  unfold max2S at e
  split at e <;> cases e
  rename_i i j ei ej
  exact ⟨i, j, by rw [res_int h1 ei, res_int h2 ej], end_p G (by simp only [Rep]) q⟩
theorem bi_min2 (hc : X.calm = true) : BiOk X .min2 := by
  refine ⟨_, call_min2 hc, prim2b (prim2 fun g a b x y l1 l2 Pv Pr H Q res h1 h2 hv G e q => ?_)⟩
  unfold min2S at e
  split at e <;> cases e
  rename_i i j ei ej
  exact ⟨i, j, by rw [res_int h1 ei, res_int h2 ej], end_p G (by simp only [Rep]) q⟩
theorem maxI_spec : ∀ {ns : List Int}, ns ≠ [] → maxI ns ∈ ns ∧ ∀ y ∈ ns, y ≤ maxI ns
  | [x], _ => ⟨by simp [maxI], by simp [maxI]⟩
  | x :: y :: r, _ => by
    obtain ⟨h1, h2⟩ := maxI_spec (ns := y :: r) (by simp)
    simp only [maxI]
    refine ⟨?_, fun z hz => ?_⟩
    · rcases Int.le_total (maxI (y :: r)) x with h | h
      · rw [Int.max_eq_left h]; exact List.mem_cons_self
      · rw [Int.max_eq_right h]; exact List.mem_cons_of_mem _ h1
    · rcases List.mem_cons.mp hz with rfl | hz
      · exact Int.le_max_left _ _
      · exact Int.le_trans (h2 z hz) (Int.le_max_right _ _)
theorem minI_spec : ∀ {ns : List Int}, ns ≠ [] → minI ns ∈ ns ∧ ∀ y ∈ ns, minI ns ≤ y
  | [x], _ => ⟨by simp [minI], by simp [minI]⟩
  | x :: y :: r, _ => by
    obtain ⟨h1, h2⟩ := minI_spec (ns := y :: r) (by simp)
    simp only [minI]
    refine ⟨?_, fun z hz => ?_⟩
    · rcases Int.le_total (minI (y :: r)) x with h | h
      · rw [Int.min_eq_right h]; exact List.mem_cons_of_mem _ h1
      · rw [Int.min_eq_left h]; exact List.mem_cons_self
    · rcases List.mem_cons.mp hz with rfl | hz
      · exact Int.min_le_left _ _
      · exact Int.le_trans (Int.min_le_right _ _) (h2 z hz)
theorem bi_max (hc : X.calm = true) : BiOk X .max := by
  refine ⟨_, cr_max hc, prim1 fun g a x l1 Pv Pr H Q res h1 hv G e q => ?_⟩
  simp only [max1S, Option.bind_eq_some_iff] at e
  obtain ⟨ns, ⟨ds, e1, e2⟩, e3⟩ := e
  split at e3 <;> cases e3
  rename_i hne
  obtain ⟨p, xs, rfl, hp, hr⟩ := res_list h1 G mem_l hv e1
  have e4 := reps_ints e2 hr
  subst e4
  refine ⟨p, ns, rfl, .inl hp, List.length_pos_iff.mpr hne, fun m hm hall => ?_⟩
  obtain ⟨k1, k2⟩ := maxI_spec hne
  have : m = maxI ns := Int.le_antisymm (k2 m hm) (hall _ k1)
  subst this
  exact end_p (l2 := []) G (by simp only [Rep]) q
theorem bi_min (hc : X.calm = true) : BiOk X .min := by
  refine ⟨_, cr_min hc, prim1 fun g a x l1 Pv Pr H Q res h1 hv G e q => ?_⟩
  simp only [min1S, Option.bind_eq_some_iff] at e
  obtain ⟨ns, ⟨ds, e1, e2⟩, e3⟩ := e
  split at e3 <;> cases e3
  rename_i hne
  obtain ⟨p, xs, rfl, hp, hr⟩ := res_list h1 G mem_l hv e1
  have e4 := reps_ints e2 hr
  subst e4
  refine ⟨p, ns, rfl, .inl hp, List.length_pos_iff.mpr hne, fun m hm hall => ?_⟩
  obtain ⟨k1, k2⟩ := minI_spec hne
  have : m = minI ns := Int.le_antisymm (hall _ k1) (k2 m hm)
  subst this
  exact end_p (l2 := []) G (by simp only [Rep]) q
theorem bi_sum (hc : X.calm = true) : BiOk X .sum := by
  refine ⟨_, cr_sum hc, prim1 fun g a x l1 Pv Pr H Q res h1 hv G e0 q => ?_⟩
  obtain ⟨ns, e, rfl⟩ := Option.map_eq_some_iff.mp e0
  clear e0
  simp only [Option.bind_eq_some_iff] at e
  obtain ⟨ds, e1, e2⟩ := e
  obtain ⟨p, xs, rfl, hp, hr⟩ := res_list h1 G mem_l hv e1
  have e4 := reps_ints e2 hr
  subst e4
  exact ⟨p, ns, rfl, .inl hp, end_p (l2 := []) G (by simp only [Rep]) q⟩
theorem bi_all (hc : X.calm = true) : BiOk X .all := by
  refine ⟨_, cr_all hc, prim1 fun g a x l1 Pv Pr H Q res h1 hv G e0 q => ?_⟩
  obtain ⟨ns, e, rfl⟩ := Option.map_eq_some_iff.mp e0
  clear e0
  simp only [Option.bind_eq_some_iff] at e
  obtain ⟨ds, e1, e2⟩ := e
  obtain ⟨p, xs, rfl, hp, hr⟩ := res_list h1 G mem_l hv e1
  have e4 := reps_bls e2 hr
  subst e4
  exact ⟨p, ns, rfl, .inl hp, end_p (l2 := []) G (by simp only [Rep]) q⟩
theorem bi_any (hc : X.calm = true) : BiOk X .any := by
  refine ⟨_, cr_any hc, prim1 fun g a x l1 Pv Pr H Q res h1 hv G e0 q => ?_⟩
  obtain ⟨ns, e, rfl⟩ := Option.map_eq_some_iff.mp e0
  clear e0
  simp only [Option.bind_eq_some_iff] at e
  obtain ⟨ds, e1, e2⟩ := e
  obtain ⟨p, xs, rfl, hp, hr⟩ := res_list h1 G mem_l hv e1
  have e4 := reps_bls e2 hr
  subst e4
  exact ⟨p, ns, rfl, .inl hp, end_p (l2 := []) G (by simp only [Rep]) q⟩
theorem bi_tuple : BiOk X .tuple := by
  refine ⟨_, call_tuple_of, prim1 fun g a x l1 Pv Pr H Q res h1 hv G e0 q => ?_⟩
  obtain ⟨ds, e, rfl⟩ := Option.map_eq_some_iff.mp e0
  clear e0
  rcases isLT_cases e with z | z
  · obtain ⟨p, xs, rfl, hB, hH, hr⟩ := res_tup h1 G z
    refine ⟨p, xs, rfl, .inr ⟨SqT.of hH, end_p (l2 := []) G ?_ q⟩⟩
    simp only [Rep]
    exact ⟨p, xs, rfl, hB, hr⟩
  · obtain ⟨p, xs, rfl, hp, hr⟩ := res_list h1 G mem_l hv z
    exact ⟨p, xs, rfl, .inl ⟨.inl hp, end_t (l2 := []) G hr q⟩⟩
theorem list_dK (hc : X.calm = true) : CallR X (.type "list") (fun xs H Q => ∃ p kvs, xs = [V.ref p] ∧ Rd H p (.dK kvs) ∧ ∀ q, H q = none → Q (.ref q) (upd H q (.lst (kvs.map fun kv => kV kv.1)))) := by
  intro pins s σ H xs us Q I r ⟨p, kvs, e, hk, q⟩
  subst e
  obtain ⟨u, eu, rx⟩ := vals1 r
  subst eu
  obtain rfl : u = Value.ref p := rx
  obtain ⟨z, lo, vs, rk, hd⟩ := dk_rd I.hok hk
  obtain ⟨ep, hat⟩ := hd.dictAt
  have hl : kvs.length = vs.length := Paired.length rk
  refine PySem.W.kdl_call (PySem.W.kdl_dict (knd := mixKind X.prog X.w) (kvs := vs) (ep := ep) lo) (I.ok.hd hc) hat (by rw [← hl]; exact z) fun h' tk acc' c' hkeep hS hacc => ?_
  refine ⟨.ref s.heap.objs.size, upd H s.heap.objs.size (.lst (kvs.map fun kv => kV kv.1)), I.laid hkeep (Nat.le_refl _) (show ObjOk X.prog X.w _ _ _ (.lst (kvs.map fun kv => kV kv.1)) from ⟨?_, acc'.toList, c', ?_, ?_⟩), rfl, q _ (I.hok.fresh (Nat.le_refl _))⟩
  · rw [List.length_map]; exact z
  · have el : acc'.toList.length = acc'.size := by simp
    refine vals_of_at (by rw [List.length_map, el, hacc.1, hl]) fun j x w h1 h2 => ?_
    obtain ⟨k, y, hky, hi⟩ := hacc.2 j w (by rw [← Array.getElem?_toList]; exact h2)
    have e1 : (kvs.map (·.1))[j]? = some k := by
      rw [KV.keys rk, List.getElem?_map, hky] <;> rfl
    have e2 : (kvs.map fun kv => kV kv.1)[j]? = some (kV k) := by
      have e3 : (kvs.map fun kv => kV kv.1) = (kvs.map (·.1)).map kV := by rw [List.map_map] <;> rfl
      rw [e3, List.getElem?_map, e1] <;> rfl
    rw [e2] at h1
    cases h1
    exact keyIs_rel hi
  · rw [Array.toArray_toList]; exact hS
end
end VS

/-! VSk: list and dict of a dict, isinstance, methods that read. -/
namespace VS
open PySem PySem.Spec PyProof.Rows L2
section
variable {X : Cx}
theorem list_dT (hc : X.calm = true) : CallR X (.type "list") (fun xs H Q => ∃ d kvs, xs = [V.ref d] ∧ Rd H d (.dT kvs) ∧ ∀ p bs, H p = none → IsKeys H kvs bs → Q (.ref p) (upd H p (.lst (bs.map V.ref)))) := call_list_dT hc
/-- the keys of a dict, as they stand in a list -/
theorem keysK_rep {g : Gh} : ∀ {kvs : List (D × D)} {es : List (Key × V)}, RepK g kvs es → Reps g (keysK kvs) (es.map fun kv => kV kv.1)
  | [], es, h => by simp only [RepK] at h; subst h; simp [keysK, Reps]
  | (k, d) :: r, es, h => by
    simp only [RepK] at h
    obtain ⟨j, y, t, rfl, rfl, q1, q2⟩ := h
    have ih := keysK_rep q2
    simp only [keysK, List.map_cons, Reps] at ih ⊢
    refine ⟨kV j, _, rfl, ?_, ih⟩
    cases j <;> simp [kD, kV, Rep]
theorem rep_tDof {g : Gh} {js : List Key} {b : Addr} (h : g.B b = some (.tup (js.map kV))) : Rep g (tD js) (.ref b) := by
  unfold tD
  simp only [Rep]
  refine ⟨b, _, rfl, h, ?_⟩
  clear h
  induction js with
  | nil => simp [Reps]
  | cons j r ih =>
    simp only [List.map_cons, Reps]
    refine ⟨kV j, _, rfl, ?_, ih⟩
    cases j <;> simp [kD, kV, Rep]
theorem keysT_rep : ∀ {g : Gh} {kvs : List (D × D)} {es : List (List Key × V)} {bs : List Addr} {P : PL} {H : Hp}, RepT g kvs es → IsKeys H es bs → Good g.B P H → ∃ g', g.le g' ∧ g.as = g'.as ∧ Good g'.B P H ∧ Reps g' (keysK kvs) (bs.map V.ref)
  | g, [], es, bs, P, H, h, k, G => by
    simp only [RepT] at h
    subst h
    cases k
    exact ⟨g, .refl g, rfl, G, by simp [keysK, Reps]⟩
  | g, (k0, d) :: r, es, bs, P, H, h, k, G => by
    simp only [RepT] at h
    obtain ⟨j, y, t, rfl, rfl, q1, q2⟩ := h
    cases k with
    | @cons _ b _ bs' h1 h2 =>
      obtain ⟨g1, le1, as1, G1, r1⟩ := keysT_rep q2 h2 G
      obtain ⟨G2, kk⟩ := G1.tupIce h1
      refine ⟨g1.put b (.tup (j.map kV)), le1.trans (.put kk), as1, G2, ?_⟩
      have ih := Reps.mono (.put kk) _ _ r1
      simp only [keysK, List.map_cons, Reps] at ih ⊢
      exact ⟨.ref b, _, rfl, rep_tDof Gh.put_at, ih⟩
theorem Good.fresh_mono {B : Hp} {P : PL} {H : Hp} (G : Good B P H) : True := trivial
theorem bi_list (hc : X.calm = true) : BiOk X .list := by
  refine ⟨_, call_list_of.or ((list_dK hc).or (list_dT hc)), prim1 fun g a x l1 Pv Pr H Q res h1 hv G e q => ?_⟩
  unfold listS at e
  split at e
  · rename_i ds eds
    cases e
    obtain ⟨p, xs, rfl, hp, hr⟩ := res_seq h1 G mem_l hv eds
    refine .inl ⟨p, xs, rfl, ?_, end_l (l2 := []) G hr q⟩
    rcases hp with hp | hp
    · exact .inl (.inl hp)
    · exact .inr (SqT.of hp)
  · obtain ⟨kvs, ek, rfl⟩ := Option.map_eq_some_iff.mp e
    obtain ⟨p, rfl, ⟨es, hd, hr⟩ | ⟨es, hd, hr⟩⟩ := res_K h1 G mem_l hv ek
    · exact .inr (.inl ⟨p, es, rfl, hd.rd, end_l (l2 := []) G (keysK_rep hr) q⟩)
    · refine .inr (.inr ⟨p, es, rfl, hd.rd, fun p2 bs hp2 hk => ?_⟩)
      obtain ⟨g2, le2, as2, G2, r2⟩ := keysT_rep hr hk G
      refine end_l (Pv := Pv) (l2 := []) G2 r2 (fun v g' H' l' le as rv G' => ?_) p2 hp2
      exact q v g' H' l' (le2.trans le) (as2.trans as) rv G'
theorem dict_copy : CallR X (.type "dict") (fun xs H Q => ∃ p kvs, xs = [V.ref p] ∧ Rd H p (.dK kvs) ∧ ∀ q, H q = none → Q (.ref q) (upd H q (.dK kvs))) := by
  intro pins s σ H xs us Q I r ⟨p, kvs, e, hp, q⟩
  subst e
  obtain ⟨u, rfl, rx⟩ := vals1 r
  obtain rfl : u = .ref p := rx
  exact d_copyOf I hp fun p' s' hn I' => ⟨.ref p', _, I', rfl, q p' hn⟩
theorem ownK_pure {g : Gh} : ∀ {kvs : List (D × D)} {es : List (Key × V)}, RepK g kvs es → OwnK g (kvs.map fun kv => (kv.1, .d kv.2)) es []
  | [], es, h => by simp only [RepK] at h; subst h; simp [OwnK]
  | (k, d) :: r, es, h => by
    simp only [RepK] at h
    obtain ⟨j, y, t, rfl, rfl, q1, q2⟩ := h
    simp only [List.map_cons, OwnK]
    exact ⟨j, y, t, [], [], rfl, rfl, rfl, own_d.mpr ⟨rfl, q1⟩, ownK_pure q2⟩
theorem repT_flat {g : Gh} {kvs : List (D × D)} {es : List (List Key × V)} (h : RepT g kvs es) (f : (kvs.all fun p => p.1.flat) = true) : kvs = [] := by
  cases kvs with
  | nil => rfl
  | cons p r =>
    obtain ⟨k, d⟩ := p
    simp only [RepT] at h
    obtain ⟨j, _, _, _, rfl, _, _⟩ := h
    simp [tD, D.flat] at f
/-- a dict with flat keys to be read as one of the first kind -/
def DKx (H : Hp) (a : Addr) (es : List (Key × V)) : Prop := Rd H a (.dK es) ∨ (es = [] ∧ H a = some (.dT []))
theorem dict_copyE : CallR X (.type "dict") (fun xs H Q => ∃ p, xs = [V.ref p] ∧ H p = some (.dT []) ∧ ∀ q, H q = none → Q (.ref q) (upd H q (.dK []))) := by
  intro pins s σ H xs us Q I r ⟨p, e, hp, q⟩
  subst e
  obtain ⟨u, rfl, rx⟩ := vals1 r
  obtain rfl : u = .ref p := rx
  refine d_copyOf (swapTK I hp) (.inl upd_same) fun p' s' hn I' => ?_
  have hne : p' ≠ p := fun z => by subst z; rw [upd_same] at hn; cases hn
  rw [upd_ne hne] at hn
  have I2 := swapKT I' (a := p) (by rw [upd_ne (Ne.symm hne)]; exact upd_same)
  have e2 : upd (upd (upd H p (.dK [])) p' (.dK [])) p (.dT []) = upd H p' (.dK []) := by
    funext b
    by_cases hb : b = p
    · subst hb
      rw [upd_same, upd_ne (Ne.symm hne), hp]
    · rw [upd_ne hb]
      by_cases hb2 : b = p'
      · subst hb2; rw [upd_same, upd_same]
      · rw [upd_ne hb2, upd_ne hb, upd_ne hb2]
  rw [e2] at I2
  exact ⟨.ref p', _, I2, rfl, q p' hn⟩
theorem bi_dict : BiOk X .dict := by
  refine ⟨_, dict_copy.or dict_copyE, prim1 fun g a x l1 Pv Pr H Q res h1 hv G e q => ?_⟩
  simp only [dictS, Option.bind_eq_some_iff] at e
  obtain ⟨kvs, ek, e⟩ := e
  split at e <;> cases e
  rename_i hf
  have fin : ∀ (es : List (Key × V)) (p : Addr), RepK g kvs es → H p = none → Q (.ref p) (upd H p (.dK es)) := fun es p hr hp => by
    refine q (.ref p) g (upd H p (.dK es)) [(p, .dK es)] (.refl g) rfl ?_ (G.tail.new hp rfl)
    show Own g (.dct _) (.ref p) _
    simp only [Own]
    exact ⟨p, [], rfl, .inl ⟨es, rfl, ownK_pure hr⟩⟩
  obtain ⟨p, rfl, ⟨es, hd, hr⟩ | ⟨es, hd, hr⟩⟩ := res_K h1 G mem_l hv ek
  · exact .inl ⟨p, es, rfl, hd.rd, fun p2 hp2 => fin es p2 hr hp2⟩
  · have e := repT_flat hr hf
    subst e
    simp only [RepT] at hr
    subst hr
    rcases hd with hd | ⟨z, _⟩
    · exact .inr ⟨p, rfl, hd, fun p2 hp2 => fin [] p2 (by simp [RepK]) hp2⟩
    · exact absurd rfl z
theorem bi_ok (hc : X.calm = true) (b : Bi) : BiOk X b := by
  cases b
  · exact bi_len
  · exact bi_int
  · exact bi_str
  · exact bi_abs
  · exact bi_min hc
  · exact bi_max hc
  · exact bi_min2 hc
  · exact bi_max2 hc
  · exact bi_sum hc
  · exact bi_all hc
  · exact bi_any hc
  · exact bi_list hc
  · exact bi_tuple
  · exact bi_dict
theorem bi_boot (b : Bi) : bootBuiltins b.name = some b.val := by cases b <;> decide +kernel
/-! ### isinstance -/
def rIsG (K : PySem.W.Frag) : List V → Hp → VK → Prop := fun xs H Q => ∃ (as : Aux) (d : D) (x : V) (t : Ty) (b : Bool), xs = [x, .ty t.name] ∧ Rep ⟨H, as⟩ d x ∧ isiS t (.p d) = some b ∧ Q (.bl b) H
theorem rep_kit {pins : List (Addr × Obj)} {σ : L2.St} {H : Hp} {s : Shared} {as : Aux} {d : D} {x : V} {u : Value} {t : Ty} {b : Bool} (I : Inv X pins σ H s) (h : Rep ⟨H, as⟩ d x) (rx : RelV x u) (e : isiS t (.p d) = some b) :
    ∃ P T, PySem.W.KitX X.K u (.type T) P ∧ P s.heap ∧ u ≠ .builtin "__main__.__loader__#opaque" ∧ kitB T t.name = some b := by
  cases d with
  | non =>
    cases rep_non h
    cases (show u = Value.none from rx)
    refine ⟨_, _, PySem.W.kitx_none, True.intro, (fun z => nomatch z), ?_⟩
    cases t <;> first | (cases e; decide +kernel) | cases e
  | bl c =>
    cases rep_bl h
    cases (show u = Value.bool c from rx)
    refine ⟨_, _, PySem.W.kitx_bool, True.intro, (fun z => nomatch z), ?_⟩
    cases t <;> first | (cases e; decide +kernel) | cases e
  | int i =>
    cases rep_int h
    obtain ⟨tk, rfl⟩ := (show ∃ t, u = Value.int i t from rx)
    refine ⟨_, _, PySem.W.kitx_int, True.intro, (fun z => nomatch z), ?_⟩
    cases t <;> first | (cases e; decide +kernel) | cases e
  | str i =>
    cases rep_str h
    obtain ⟨tk, rfl⟩ := (show ∃ t, u = Value.str i t from rx)
    refine ⟨_, _, PySem.W.kitx_str, True.intro, (fun z => nomatch z), ?_⟩
    cases t <;> first | (cases e; decide +kernel) | cases e
  | tup ds =>
    simp only [Rep] at h
    obtain ⟨a, xs, rfl, hb, _⟩ := h
    cases (show u = Value.ref a from rx)
    obtain ⟨_, _, _, p⟩ := (show ObjOk X.prog X.w H s.heap a (.tup xs) from I.hok a _ hb)
    obtain ⟨o, h1, h2, _⟩ := p
    refine ⟨_, _, PySem.W.kitx_tuple, ⟨o, h1, h2⟩, (fun z => nomatch z), ?_⟩
    cases t <;> first | (cases e; decide +kernel) | cases e
  | lst ds =>
    simp only [Rep] at h
    obtain ⟨a, xs, rfl, hb, _⟩ := h
    cases (show u = Value.ref a from rx)
    obtain ⟨_, _, n, _, h1⟩ := (show ObjOk X.prog X.w H s.heap a (.lst xs) from hb.ok I.hok)
    refine ⟨_, _, PySem.W.kitx_list, ⟨_, h1, rfl⟩, (fun z => nomatch z), ?_⟩
    cases t <;> first | (cases e; decide +kernel) | cases e
  | dct kvs =>
    simp only [Rep] at h
    obtain ⟨a, rfl, ⟨es, hb, _⟩ | ⟨es, hb, _⟩⟩ := h
    · cases (show u = Value.ref a from rx)
      obtain ⟨_, _, vs, _, o, es', ep, h1, h2, _⟩ := (show ObjOk X.prog X.w H s.heap a (.dK es) from hb.ok I.hok)
      refine ⟨_, _, PySem.W.kitx_dict, ⟨o, h1, h2.1⟩, (fun z => nomatch z), ?_⟩
      cases t <;> first | (cases e; decide +kernel) | cases e
    · cases (show u = Value.ref a from rx)
      obtain ⟨_, _, xs, _, o, es', ep, h1, h2, _⟩ := (show ObjOk X.prog X.w H s.heap a (.dT es) from hb.ok I.hok)
      refine ⟨_, _, PySem.W.kitx_dict, ⟨o, h1, h2.1⟩, (fun z => nomatch z), ?_⟩
      cases t <;> first | (cases e; decide +kernel) | cases e
  | obj n => cases e
  | scr n => cases e
theorem call_isG : CallR X (.builtin "isinstance") (rIsG X.K) := by
  intro pins s σ H xs us Q I r ⟨as, d, x, t, b, e0, h, e, q⟩
  subst e0
  obtain ⟨u1, u2, rfl, r1, r2⟩ := vals2 r
  cases (show u2 = Value.type t.name from r2)
  obtain ⟨P, T, Z, p, hx, k⟩ := rep_kit I h r1 e
  exact PySem.W.kia_one Z I.kIn p (kit_ty k) hx fun tk => ⟨.bl b, H, I.tok tk, rfl, q⟩
theorem isi_data {r : R} {t : Ty} : isiS t r = isiS t (.p r.data) := rfl
theorem isi_prim (t : Ty) {K : PySem.W.Frag} : PrimR ResR (sem1 fun r => (isiS t r).map fun b => .p (.bl b)) (fun vs H Q => ∃ x, vs = [x] ∧ rIsG K [x, .ty t.name] H Q) := by
  refine prim1 fun g a x l1 Pv Pr H Q res h1 hv G e0 q => ⟨x, rfl, ?_⟩
  obtain ⟨b, e, rfl⟩ := Option.map_eq_some_iff.mp e0
  exact ⟨g.as, a.data, x, t, b, rfl, h1.look G mem_l hv, e, end_p (l2 := []) G (by simp only [Rep]) q⟩
end
end VS

/-! VSk2: x[::-1], x[:0:-1]. -/
namespace VS
open PySem PySem.Spec PyProof.Rows L2
theorem rev_len (z : Str) (b : Bool) : (Builtin.Str.strSliceIndices none (if b then some 0 else none) (-1) z.length).length ≤ z.length := by
  unfold Builtin.Str.strSliceIndices sliceRange
  rw [List.length_map, List.length_range]
  cases b
  · simp
    split <;> omega
  · simp
    split <;> omega
theorem revT_len (z : Str) (b : Bool) : (revT z b).length ≤ z.length := by
  show (((Builtin.Str.strSliceIndices none (if b then some 0 else none) (-1) z.length).filterMap (z.cps[·]?)).toArray).size ≤ _
  rw [List.size_toArray]
  exact Nat.le_trans (List.length_filterMap_le _ _) (rev_len z b)
def rRev (K : PySem.W.Frag) (b : Bool) (x : V) (H : Hp) (Q : VK) : Prop := (∃ z, x = .str z ∧ z.length ≤ sizeLine ∧ Q (.str (revT z b)) H) ∨ (b = false ∧ ∃ a xs, x = .ref a ∧ SqL K H a xs ∧ ∀ p, H p = none → Q (.ref p) (upd H p (.lst xs.reverse)))
theorem pe_rev {X : Cx} {e : Expr} {te : TE} {b : Bool} {hi : Option Expr} {k : Nat} {p1 p2 p3 pos : Pos} (he : PE X e te) (hh : (b = false ∧ hi = none) ∨ (b = true ∧ ∃ k p, hi = some (.Constant (.int 0) k p))) :
    PE X (.Subscript e (.Slice none hi (some (.UnaryOp .USub (.Constant (.int 1) k p1) p2)) p3) pos) (fun σ H Q => te σ H fun x H1 => rRev X.K b x H1 Q) := by
  refine ⟨fun pins s σ H Q I h => ?_⟩
  refine Subscript_ (thn (he.run pins s σ H _ I h) fun v s1 ⟨x, H1, I1, r1, q1⟩ => ?_)
  have hst : PO X (some (.UnaryOp .USub (.Constant (.int 1) k p1) p2)) (tPart (tUn (rU fun i => .int (-i)) (tC (.int 1)))) := po_some (pe_un un_neg pe_int)
  have hpo : ∃ t, PO X hi t ∧ ∀ σ H, t σ H fun o H2 => o = (if b then some 0 else none) ∧ H2 = H := by
    rcases hh with ⟨rfl, rfl⟩ | ⟨rfl, k, p, rfl⟩
    · exact ⟨_, po_none, fun σ H => ⟨rfl, rfl⟩⟩
    · exact ⟨_, po_some pe_int, fun σ H => ⟨0, rfl, rfl, rfl⟩⟩
  obtain ⟨th, hpo, hth⟩ := hpo
  refine wpAny_Slice (thn (po_none.run pins s1 σ H1 (fun o H2 => o = none ∧ H2 = H1) I1 ⟨rfl, rfl⟩) fun vl s2 ⟨l, H2, I2, pl, el, e2⟩ => ?_)
  subst el e2
  refine thn (hpo.run pins s2 σ H2 _ I2 (hth σ H2)) fun vu s3 ⟨u, H3, I3, pu, eu, e3⟩ => ?_
  subst eu e3
  refine thn (hst.run pins s3 σ H3 (fun o H4 => o = some (-1) ∧ H4 = H3) I3 ⟨1, rfl, -1, rfl, rfl, rfl⟩) fun vs s4 ⟨o, H4, I4, ps, eo, e4⟩ => ?_
  subst eo e4
  have I5 : Inv X pins σ H4 { s4 with heap := s4.heap.push { cls := .type "slice", data := .fields #[vl, vu, vs] } } := I4.kept (t' := s4.toks) fun b ob q => Heap.get?_push_of_some _ q
  show wpAny (model X.prog X.w) X.A (subscriptTail e (.Slice none hi (some (.UnaryOp .USub (.Constant (.int 1) k p1) p2)) p3) v (.ref s4.heap.objs.size)) (EP X pins σ Q) X.xe { s4 with heap := s4.heap.push { cls := .type "slice", data := .fields #[vl, vu, vs] } }
  rcases q1 with ⟨z, ez, hz, q⟩ | ⟨rfl, a, xs, ex, hx, q⟩
  · subst ez
    obtain ⟨t, rfl⟩ := r1
    obtain ⟨l, rfl, el⟩ := IsPart.raw pl
    obtain ⟨u, rfl, eu⟩ := IsPart.raw pu
    obtain ⟨w, rfl, ew⟩ := IsPart.raw ps
    refine tail_any (ops := [.ref s4.heap.objs.size, .str z t]) (typeIs_str _ _ _) F.slot_str_getitem.lookup ?_ (by with_unfolding_all rfl)
    refine wpAny_getItem_str_slice (l := l) (u := u) (st := w) ⟨_, Heap.get?_push_size _ rfl, rfl, rfl⟩ (by rw [ew]; rfl) ?_
    have e1 : sliceMade z t l u w = .str (revT z b) := by
      unfold sliceMade slicePicked
      rw [el, eu, ew]
      rfl
    rw [e1]
    exact ⟨Nat.le_trans (revT_len z b) hz, .str _, H4, I5.tok _, ⟨_, rfl⟩, q⟩
  · subst ex
    cases r1
    obtain ⟨its, r, ht, hz⟩ := I5.list hx
    have hlen := r.length
    refine tail_any (ops := [.ref a, .ref s4.heap.objs.size]) ht.isList.typeIs (PySem.slot_list_getitem.lookup) ?_ (by with_unfolding_all rfl)
    rcases hh with ⟨_, rfl⟩ | ⟨z, _⟩
    · refine wpAny_getItem_list_slice ht.isList (Heap.IsSliceOf.new _ vl vu vs) pl (show IsPart vu none from pu) ps (by decide) ?_ (by rw [List.size_toArray]; omega)
      rw [PySem.W.krv_pick]
      refine ⟨.ref _, _, I5.laid (t' := s4.toks) (o := .lst xs.reverse) (fun b ob q => Heap.get?_push_of_some _ q) (Nat.le_refl _) ?_, rfl, q _ (I5.hok.fresh (Nat.le_refl _))⟩
      exact ⟨by rw [List.length_reverse]; exact hz, _, 0, r.reverse, Heap.get?_push_size _ rfl⟩
    · cases z
theorem reps_rev {g : Gh} {ds : List VS.D} {xs : List V} (h : Reps g ds xs) : Reps g ds.reverse xs.reverse := by
  induction ds generalizing xs with
  | nil => simp only [Reps] at h; subst h; simp [Reps]
  | cons d ds ih =>
    simp only [Reps] at h
    obtain ⟨x, t, rfl, r1, r2⟩ := h
    rw [List.reverse_cons, List.reverse_cons]
    exact reps_append (ih r2) (by simp only [Reps]; exact ⟨x, [], rfl, r1, rfl⟩)
theorem rev_ok {X : Cx} (b : Bool) : PrimR ResR (sem1 (revS b)) (fun vs H Q => ∃ x, vs = [x] ∧ rRev X.K b x H Q) := prim1 fun g a x l1 Pv Pr H Q res h1 hv G e q => ⟨x, rfl, by
  unfold revS at e
  split at e
  · rename_i z ez
    split at e <;> cases e
    rename_i hz
    exact .inl ⟨z, res_str h1 ez, sizeB_eq ▸ hz, end_p (l2 := []) G (by simp only [Rep]) q⟩
  · split at e
    · cases e
    · rename_i hb
      obtain ⟨ds, ed, rfl⟩ := Option.map_eq_some_iff.mp e
      obtain ⟨p, xs, rfl, hp, hr⟩ := res_list h1 G mem_l hv ed
      exact .inr ⟨by simpa using hb, p, xs, rfl, .inl hp, end_l (l2 := []) G (reps_rev hr) q⟩⟩
end VS

/-! VSl: the check of a text against the small language; the soundness of expressions. -/
namespace VS
open PySem PySem.Spec PyProof.Rows L2

/-! ### the check -/
def okName (x : Str) : Bool := !(x == ("__debug__" : Str)) && !(x == ("__classdict__" : Str)) && decide (x ≠ ("__name__" : Str))
def visB (sc : Scope) (x : Str) : Bool := match sc.names.lookup x with
  | some .local => true
  | some .cell => true
  | some .free => true
  | _ => false
def glB (sc : Scope) (x : Str) : Bool := match sc.names.lookup x with
  | some .globalImplicit => true
  | _ => false
def cstOk : Const → D → Bool
  | .none, .non => true
  | .bool b, .bl c => b == c
  | .int i, .int j => i == j
  | .str x, .str y => decide (x = y)
  | _, _ => false
def noSlice : Expr → Bool
  | .Slice _ _ _ _ => false
  | _ => true
def noCall0 : Expr → Bool
  | .Call (.Name _ _) [] [] _ => false
  | _ => true
def tgSlots : Tg → List Nat
  | .nm i => [i]
  | .tp is => is
def locB (sc : Scope) (x : Str) : Bool := match sc.names.lookup x with
  | some .local => true
  | some .cell => true
  | _ => false
/-- a target's name -/
def ckN (N : List Str) (sc : Scope) (i : Nat) (e : Expr) : Bool := match e with
  | .Name x _ => decide (N[i]? = some x) && locB sc x
  | _ => false
def ckNs (N : List Str) (sc : Scope) : List Nat → List Expr → Bool
  | [], [] => true
  | i :: is, e :: es => ckN N sc i e && ckNs N sc is es
  | _, _ => false
def ckTg (N : List Str) (sc : Scope) (t : Tg) (e : Expr) : Bool := match t, e with
  | .nm i, e => ckN N sc i e
  | .tp is, .Tuple es _ _ => ckNs N sc is es
  | _, _ => false
def isTup : Expr → Bool
  | .Tuple _ _ _ => true
  | _ => false
def Src.call : Src → Str
  | .range1 => "range" | .range2 => "range" | .range3 => "range" | .enum => "enumerate" | .zip => "zip" | _ => ""
/-- what may stand as a test -/
def okT : E → Bool
  | .ifx _ _ _ => false
  | .and a b => okT a && okT b
  | .or a b => okT a && okT b
  | .not a => okT a
  | .frz _ => false
  | .no => false
  | .cons _ _ => false
  | _ => true
mutual
def ckE (N : List Str) : E → Scope → Expr → Bool
  | .no, _, _ => false
  | .var i, sc, e => match e with
    | .Name x _ => decide (N[i]? = some x) && visB sc x && okName x
    | _ => false
  | .cst d, _, e => match e with
    | .Constant c _ _ => cstOk c d
    | _ => false
  | .glb y _, sc, e => match e with
    | .Name x _ => decide (x = y) && glB sc x && okName x
    | _ => false
  | .bin op a b, sc, e => match e with
    | .BinOp l op' r _ => decide (op = op') && ckE N a sc l && ckE N b sc r
    | _ => false
  | .neg a, sc, e => match e with
    | .UnaryOp .USub x _ => ckE N a sc x
    | _ => false
  | .not a, sc, e => match e with
    | .UnaryOp .Not x _ => ckE N a sc x
    | _ => false
  | .cmp op a b, sc, e => match e with
    | .Compare l [op'] [r] _ => decide (op = op') && ckE N a sc l && ckE N b sc r && !behindInMarks op' r
    | _ => false
  | .cmp2 op1 op2 a b c, sc, e => match e with
    | .Compare l [op1', op2'] [r, r2] _ => decide (op1 = op1') && decide (op2 = op2') && ckE N a sc l && ckE N b sc r && ckE N c sc r2 && !behindInMarks op1' r && !behindInMarks op2' r2
    | _ => false
  | .and a b, sc, e => match e with
    | .BoolOp .And (x :: y :: rest) pos => ckE N a sc x && ckE N b sc (match rest with | [] => y | _ => .BoolOp .And (y :: rest) pos)
    | _ => false
  | .or a b, sc, e => match e with
    | .BoolOp .Or (x :: y :: rest) pos => ckE N a sc x && ckE N b sc (match rest with | [] => y | _ => .BoolOp .Or (y :: rest) pos)
    | _ => false
  | .ifx c a b, sc, e => match e with
    | .IfExp t x y _ => ckE N c sc t && okT c && ckE N a sc x && ckE N b sc y
    | _ => false
  | .sub a i, sc, e => match e with
    | .Subscript x y _ => ckE N a sc x && ckE N i sc y && noSlice y
    | _ => false
  | .slice a lo hi, sc, e => match e with
    | .Subscript x (.Slice l h none _) _ => ckE N a sc x && (match l with | none => (match lo with | .no => true | _ => false) | some y => ckE N lo sc y) && (match h with | none => (match hi with | .no => true | _ => false) | some y => ckE N hi sc y)
    | _ => false
  | .rev b a, sc, e => match e with
    | .Subscript x (.Slice none h (some (.UnaryOp .USub (.Constant (.int k) _ _) _)) _) _ => decide (k = 1) && ckE N a sc x && (match h with | none => !b | some (.Constant (.int z) _ _) => b && decide (z = 0) | _ => false)
    | _ => false
  | .tup es, sc, e => match e with
    | .Tuple xs _ _ => ckA N es sc xs && decide (xs.length < 1000)
    | _ => false
  | .lst es, sc, e => match e with
    | .List xs _ => ckA N es sc xs && decide (xs.length < 1000)
    | _ => false
  | .dnew, _, e => match e with
    | .Dict [] [] _ => true
    | _ => false
  | .call y _ es, sc, e => match e with
    | .Call (.Name x _) (a :: as) [] _ => decide (x = y) && glB sc x && okName x && ckA N es sc (a :: as)
    | _ => false
  | .bi b es, sc, e => match e with
    | .Call (.Name x _) (a :: as) [] _ => decide (x = b.name) && glB sc x && ckA N es sc (a :: as)
    | _ => false
  | .isi a t, sc, e => match e with
    | .Call (.Name x _) [y, .Name z _] [] _ => decide (x = ("isinstance" : Str)) && glB sc x && decide (z = Str.ofString t.name) && glB sc z && ckE N a sc y
    | _ => false
  | .mth m o es, sc, e => match e with
    | .Call (.Attribute x nm apos) (a :: as) [] cpos => decide (nm = m.name) && ckE N o sc x && ckA N es sc (a :: as) && (apos.endLine == cpos.line) && decide (as.length < 20) && noCall0 x
    | _ => false
  | .comp elt tg k es cond own, sc, e => match e with
    | .ListComp x [⟨t, it, ifs, ia⟩] scope _ => decide (ia = 0) && blkC N sc scope own && ckTg N scope tg t && (tgSlots tg).all (fun i => (own.map (·.2)).contains i) &&
        (match k with
          | .plain => (match es with | .cons s .no => ckE N s sc it | _ => false)
          | .range1 => (match it with | .Call (.Name f _) [a] [] _ => decide (f = ("range" : Str)) && glB sc f && ckA N es sc [a] | _ => false)
          | .range2 => (match it with | .Call (.Name f _) [a, b] [] _ => decide (f = ("range" : Str)) && glB sc f && ckA N es sc [a, b] | _ => false)
          | .range3 => (match it with | .Call (.Name f _) [a, b, c] [] _ => decide (f = ("range" : Str)) && glB sc f && ckA N es sc [a, b, c] | _ => false)
          | .enum => (match it with | .Call (.Name f _) [a] [] _ => decide (f = ("enumerate" : Str)) && glB sc f && ckA N es sc [a] && isTup t | _ => false)
          | .zip => (match it with | .Call (.Name f _) [a, b] [] _ => decide (f = ("zip" : Str)) && glB sc f && ckA N es sc [a, b] && isTup t | _ => false)
          | _ => false) &&
        (match ifs with | [] => (match cond with | .no => true | _ => false) | [c] => ckE N cond (relS scope sc) c && okT cond | _ => false) &&
        ckE N elt (relS scope sc) x && (match relS scope sc |>.kind with | .function => true | _ => false)
    | _ => false
  | .frz a, sc, e => ckE N a sc e
  | .cons _ _, _, _ => false
def ckA (N : List Str) : E → Scope → List Expr → Bool
  | .no, _, xs => match xs with
    | [] => true
    | _ => false
  | .cons e es, sc, xs => match xs with
    | x :: xs => ckE N e sc x && ckA N es sc xs
    | _ => false
  | _, _, _ => false
end
/-- the defs and constants of the module that an expression names -/
def E.Lk (P : Str → Fn → Prop) (G : Str → D → Prop) : E → Prop
  | .glb x d => G x d
  | .call x f es => P x f ∧ es.Lk P G
  | .bin _ a b => a.Lk P G ∧ b.Lk P G
  | .neg a => a.Lk P G
  | .not a => a.Lk P G
  | .cmp _ a b => a.Lk P G ∧ b.Lk P G
  | .cmp2 _ _ a b c => a.Lk P G ∧ b.Lk P G ∧ c.Lk P G
  | .and a b => a.Lk P G ∧ b.Lk P G
  | .or a b => a.Lk P G ∧ b.Lk P G
  | .ifx c a b => c.Lk P G ∧ a.Lk P G ∧ b.Lk P G
  | .sub a i => a.Lk P G ∧ i.Lk P G
  | .slice a lo hi => a.Lk P G ∧ lo.Lk P G ∧ hi.Lk P G
  | .rev _ a => a.Lk P G
  | .tup es => es.Lk P G
  | .lst es => es.Lk P G
  | .bi _ es => es.Lk P G
  | .isi a _ => a.Lk P G
  | .mth _ o es => o.Lk P G ∧ es.Lk P G
  | .comp elt _ _ es cond _ => elt.Lk P G ∧ es.Lk P G ∧ cond.Lk P G
  | .frz a => a.Lk P G
  | .cons e es => e.Lk P G ∧ es.Lk P G
  | _ => True

/-! ### where one stands -/
def bnames : List Str := ["len", "int", "str", "abs", "min", "max", "sum", "all", "any", "list", "tuple", "dict", "sorted", "isinstance", "range", "enumerate", "zip", "bool", "set", "reversed"]
structure CtxOk (X : Cx) (W : WX) (N : List Str) (sc : Scope) : Prop where
  calm : X.calm = true
  hN : X.N = N
  nd : N.Nodup
  hsc : X.env.scope = sc
  tk : Takes X W
  un : X.A.units + 200 < cLine
  bn : ∀ x ∈ bnames, X.mg x = none
/-- a promise by a function of data -/
def spF (cl : Cl) (f : Fn) : Sp := fun vs H Q E => ∃ g rs m ls fr, Ress g rs vs ls fr ∧ (∃ lc, Cells cl g m g.as lc ∧ Good g.B (ls ++ (lc ++ fr)) H) ∧
  match f rs m with
  | .ok r m' => ∀ v g' H' l, g.le g' → ResR g' r v l [] → (∃ lc, Cells cl g' m' g'.as lc ∧ Good g'.B (l ++ (lc ++ fr)) H') → Q v H'
  | .exc c m' => ∃ C, cl c = some C ∧ ∀ g' H', g.le g' → (∃ lc, Cells cl g' m' g'.as lc ∧ Good g'.B (lc ++ fr) H') → E (.ref C) none H'
  | .bad => False
def CallOk (cl : Cl) (X : Cx) (x : Str) (f : Fn) : Prop :=
  ∃ k fa fd ps, FnOk X.prog X.w X.K X.mg X.base (L2.CX X.prog X.w) k fa fd ps (spF cl f) ∧ Room k X.A ∧ X.mg x = some (.ref fa) ∧ PySem.W.keepIn X.K (.ref fa) = true ∧ Binds X.K fd ps []
def GlbOk (X : Cx) (x : Str) (d : D) : Prop := ∃ u v, X.mg x = some u ∧ RelV v u ∧ ∀ g, Rep g d v
section
variable {cl : Cl} {X : Cx} {W : WX} {N : List Str} {sc : Scope}
theorem CtxOk.dn {x : Str} (h : okName x = true) : (x == ("__debug__" : Str)) = false ∧ (x == ("__classdict__" : Str)) = false ∧ x ≠ "__name__" := by
  unfold okName at h
  simp only [Bool.and_eq_true, Bool.not_eq_true', decide_eq_true_eq] at h
  exact ⟨h.1.1, h.1.2, h.2⟩
theorem CtxOk.vis (C : CtxOk X W N sc) {x : Str} (h : visB sc x = true) : Vis X.env.scope x := by
  rw [C.hsc]
  unfold visB at h
  unfold Vis
  split at h
  · exact .inl (by assumption)
  · exact .inr (.inl (by assumption))
  · exact .inr (.inr (by assumption))
  · exact absurd h Bool.false_ne_true
theorem CtxOk.gl (C : CtxOk X W N sc) {x : Str} (h : glB sc x = true) : Gl X x := by
  unfold glB at h
  show X.env.scope.names.lookup x = _
  rw [C.hsc]
  split at h
  · assumption
  · exact absurd h Bool.false_ne_true
theorem CtxOk.loc (C : CtxOk X W N sc) {x : Str} (h : locB sc x = true) : L2.Loc X.env.scope x := by
  rw [C.hsc]
  unfold locB at h
  unfold L2.Loc
  split at h
  · exact .inl (by assumption)
  · exact .inr (by assumption)
  · exact absurd h Bool.false_ne_true
/-! ### the expressions one by one -/
theorem slots_get {g : Gh} {fr : PL} : ∀ {ρ : Env} {σ : L2.St} {l : PL} {i : Nat} {r : R}, Slots g fr ρ σ l → ρ[i]? = some (some r) → ∃ v l', σ[i]? = some (some v) ∧ ResR g r v l' fr ∧ ∀ p ∈ l', p ∈ l
  | [], _, _, _, _, _, e => by simp at e
  | r :: ρ, _, _, 0, q, h, e => by
    obtain ⟨o, t, l1, l2, rfl, rfl, h1, h2⟩ := h
    simp only [List.getElem?_cons_zero, Option.some.injEq] at e
    subst e
    obtain ⟨v, rfl, h1⟩ := h1
    exact ⟨v, l1, rfl, h1, fun p hp => List.mem_append_left _ hp⟩
  | r :: ρ, _, _, i + 1, q, h, e => by
    obtain ⟨o, t, l1, l2, rfl, rfl, h1, h2⟩ := h
    obtain ⟨v, l', e1, e2, e3⟩ := slots_get (i := i) h2 (by simpa using e)
    exact ⟨v, l', by simpa using e1, e2, fun p hp => List.mem_append_right _ (e3 p hp)⟩
theorem sE_var (C : CtxOk X W N sc) {i : Nat} {x : Str} {pos : Pos} (h : ckE N (.var i) sc (.Name x pos) = true) : PE X (.Name x pos) (tE cl W (.var i)) := by
  simp only [ckE, Bool.and_eq_true, decide_eq_true_eq] at h
  obtain ⟨⟨h1, h2⟩, h3⟩ := h
  obtain ⟨d1, d2, _⟩ := CtxOk.dn h3
  have base := pe_var (X := X) (i := i) (pos := pos) (by rw [C.hN]; exact h1) (C.vis h2) d1 d2
  refine ⟨fun pins s σ H Q I hw => base.run pins s σ H Q I ?_⟩
  obtain ⟨g, ρ, m, ls, tmp, fr, hR, ha⟩ := hw
  simp only [ev] at ha
  split at ha
  · rename_i y e
    obtain ⟨v, l', e1, e2, e3⟩ := slots_get hR.slots e
    refine ⟨v, e1, ha v g H [] (.refl g) (res_p (own_d.mp e2).2) hR⟩
  · rename_i f hne e
    obtain ⟨v, l', e1, e2, e3⟩ := slots_get hR.slots e
    refine ⟨v, e1, ha v g H [] (.refl g) ⟨rfl, l', e2, fun p hp => List.mem_append_left _ (e3 p hp)⟩ hR⟩
  · rename_i f e
    obtain ⟨v, l', e1, e2, e3⟩ := slots_get hR.slots e
    obtain ⟨q1, l2, q2, q3⟩ := e2
    refine ⟨v, e1, ha v g H [] (.refl g) ⟨rfl, l2, q2, fun p hp => List.mem_append_right _ (q3 p hp)⟩ hR⟩
  · exact ha.elim
end
end VS

/-! VSm: expressions, one by one. -/
namespace VS
open PySem PySem.Spec PyProof.Rows L2
section
variable {cl : Cl} {X : Cx} {W : WX} {N : List Str} {sc : Scope} {g : Gh} {ρ : Env} {m : Mem} {ls tmp fr : PL} {σ : L2.St} {H : Hp} {Q : VK} {a b c es : E} {x y z : Expr} {xs : List Expr} {pos : Pos}
theorem PE.by {e : Expr} {ir : E} {t : TE} (base : PE X e t) (h : ∀ g ρ m ls tmp fr σ H Q, Rel cl g ρ m ls tmp fr σ H → Aft cl W ResR g ρ ls tmp fr σ Q (ev ir ρ m) → t σ H Q) : PE X e (tE cl W ir) :=
  ⟨fun pins s σ H Q I ⟨g, ρ, m, ls, tmp, fr, hR, ha⟩ => base.run pins s σ H Q I (h g ρ m ls tmp fr σ H Q hR ha)⟩
theorem prim_end2 {sem : R → R → Option R} {r : R2} {p q : R} {v u : V} {l1 l2 : PL} (hp : PrimR ResR (sem2 sem) (r2L r)) (h1 : ResR g p v l1 (ls ++ fr)) (h2 : ResR g q u l2 (ls ++ fr)) (R : Rel cl g ρ m ls (l2 ++ (l1 ++ tmp)) fr σ H)
    (h : Aft cl W ResR g ρ ls tmp fr σ Q (Out.of (sem p q) m)) : r v u H Q := by
  rw [← List.append_assoc] at R
  obtain ⟨x, y, e, k⟩ := prim_end (cl := cl) (W := W) hp (ress2 h1 h2) R h
  cases e
  exact k
theorem prim_end1 {sem : R → Option R} {r : List V → Hp → VK → Prop} {p : R} {v : V} {l1 : PL} (hp : PrimR ResR (sem1 sem) r) (h1 : ResR g p v l1 (ls ++ fr)) (R : Rel cl g ρ m ls (l1 ++ tmp) fr σ H)
    (h : Aft cl W ResR g ρ ls tmp fr σ Q (Out.of (sem p) m)) : r [v] H Q := prim_end (cl := cl) (W := W) hp (ress1 h1) R h
/-- two operands and a prim -/
theorem step2 {sem : R → R → Option R} {r : R2} (hp : PrimR ResR (sem2 sem) (r2L r)) (hR : Rel cl g ρ m ls tmp fr σ H)
    (h : Aft cl W ResR g ρ ls tmp fr σ Q ((ev a ρ m).bind fun x m1 => (ev b ρ m1).bind fun y m2 => .of (sem x y) m2)) : tE cl W a σ H fun x H1 => tE cl W b σ H1 fun y H2 => r x y H2 Q :=
  ⟨g, ρ, m, ls, tmp, fr, hR, Aft.bind0 h fun p m1 v g1 H1 l1 _ le1 res1 R1 h1 => ⟨g1, ρ, m1, ls, l1 ++ tmp, fr, R1, Aft.bind h1 fun q m2 u g2 H2 l2 _ le2 res2 R2 h2 => prim_end2 hp (res1.mono le2) res2 R2 h2⟩⟩
theorem sE_bin {op : Operator} (ha : PE X x (tE cl W a)) (hb : PE X y (tE cl W b)) : PE X (.BinOp x op y pos) (tE cl W (.bin op a b)) := by
  obtain ⟨r, ho, hp⟩ := bin_ok (X := X) op
  exact PE.by (pe_op (pos := pos) ho ha hb) fun g ρ m ls tmp fr σ H Q hR h => step2 hp hR h
theorem sE_cmp (C : CtxOk X W N sc) {op : CmpOp} (ha : PE X x (tE cl W a)) (hb : PE X y (tE cl W b)) (hm : behindInMarks op y = false) : PE X (.Compare x [op] [y] pos) (tE cl W (.cmp op a b)) := by
  obtain ⟨r, ho, hp⟩ := cmp_ok (X := X) (by have := C.un; omega) op
  exact PE.by (pe_cmpR (pos := pos) ho ha hb hm) fun g ρ m ls tmp fr σ H Q hR h => step2 hp hR h
theorem neg_ok : ∃ r, UnR X (unaryOp .USub) r ∧ PrimR ResR (sem1 negS) (fun vs H Q => ∃ x, vs = [x] ∧ r x H Q) := by
  refine ⟨_, un_neg, prim1 fun g a x l1 Pv Pr H Q res h1 hv G e q => ⟨x, rfl, ?_⟩⟩
  unfold negS at e
  split at e <;> cases e
  rename_i i ei
  exact ⟨i, res_int h1 ei, end_p (l2 := []) G (by simp only [Rep]) q⟩
theorem sE_neg (ha : PE X x (tE cl W a)) : PE X (.UnaryOp .USub x pos) (tE cl W (.neg a)) := by
  obtain ⟨r, ho, hp⟩ := neg_ok (X := X)
  refine PE.by (pe_un (pos := pos) ho ha) fun g ρ m ls tmp fr σ H Q hR h => ⟨g, ρ, m, ls, tmp, fr, hR, Aft.bind0 h fun p m1 v g1 H1 l1 _ le1 res1 R1 h1 => ?_⟩
  obtain ⟨z, e, k⟩ := prim_end1 hp res1 R1 h1
  cases e
  exact k
theorem isTr_p (b : Bool) : isTr (.p (.bl b)) = some b := rfl
theorem isTr_rep {g : Gh} {r : R} {v : V} {l Pv : PL} {b : Bool} (h : ResR g r v l Pv) (e : isTr r = some b) : v = .bl b := by
  unfold isTr at e
  split at e
  · rename_i c ec
    cases e
    exact rep_bl (res_rep h ec)
  · cases e
theorem sE_not (ha : PE X x (tE cl W a)) : PE X (.UnaryOp .Not x pos) (tE cl W (.not a)) := by
  refine PE.by (pe_not (pos := pos) ha) fun g ρ m ls tmp fr σ H Q hR h => ⟨g, ρ, m, ls, tmp, fr, hR, Aft.bind0 h fun p m1 v g1 H1 l1 _ le1 res1 R1 h1 => ?_⟩
  cases e : isTr p with
  | none => rw [e] at h1; exact h1.elim
  | some b =>
    rw [e] at h1
    exact ⟨b, isTr_rep res1 e, h1 _ g1 H1 [] (.refl g1) (res_p (by simp only [Rep])) R1.drop⟩
theorem sE_cst {c : Const} {k : Nat} {d : D} (h : cstOk c d = true) : PE X (.Constant c k pos) (tE cl W (.cst d)) := by
  have fin : ∀ {v : V}, (∀ g, Rep g d v) → ∀ g ρ m ls tmp fr σ H Q, Rel cl g ρ m ls tmp fr σ H → Aft cl W ResR g ρ ls tmp fr σ Q (ev (.cst d) ρ m) → tC v σ H Q := fun hv g ρ m ls tmp fr σ H Q hR ha => ha _ g H [] (.refl g) (res_p (hv g)) hR
  cases c <;> cases d <;> simp only [cstOk, Bool.false_eq_true] at h
  · exact PE.by pe_non (fin fun g => by simp only [Rep])
  · rw [beq_iff_eq] at h
    subst h
    exact PE.by pe_bl (fin fun g => by simp only [Rep])
  · rw [beq_iff_eq] at h
    subst h
    exact PE.by pe_int (fin fun g => by simp only [Rep])
  · rw [decide_eq_true_eq] at h
    subst h
    exact PE.by pe_str (fin fun g => by simp only [Rep])
theorem sE_glb (C : CtxOk X W N sc) {n : Str} {d : D} (h1 : glB sc n = true) (h2 : okName n = true) (k : GlbOk X n d) : PE X (.Name n pos) (tE cl W (.glb n d)) := by
  obtain ⟨u, v, hm, r, hv⟩ := k
  exact PE.by (pe_glob (pos := pos) (C.gl h1) hm r (CtxOk.dn h2).1) fun g ρ m ls tmp fr σ H Q hR ha => ha _ g H [] (.refl g) (res_p (hv g)) hR
theorem sE_and2' (ha : PE X x (tE cl W a)) {rest : List Expr} (hy : PE X (.BoolOp .And (z :: rest) pos) (tE cl W b)) : PE X (.BoolOp .And (x :: z :: rest) pos) (tE cl W (.and a b)) := by
  refine PE.by (pe_and ha hy) fun g ρ m ls tmp fr σ H Q hR h => ⟨g, ρ, m, ls, tmp, fr, hR, Aft.bind0 h fun p m1 v g1 H1 l1 _ le1 res1 R1 h1 => ?_⟩
  cases e : isTr p with
  | none => rw [e] at h1; exact h1.elim
  | some c =>
    rw [e] at h1
    refine ⟨c, isTr_rep res1 e, ?_⟩
    cases c with
    | true => exact ⟨g1, ρ, m1, ls, tmp, fr, R1.drop, h1⟩
    | false => exact h1 _ g1 H1 [] (.refl g1) (res_p (by simp only [Rep])) R1.drop
theorem sE_or2 (ha : PE X x (tE cl W a)) {rest : List Expr} (hy : PE X (.BoolOp .Or (z :: rest) pos) (tE cl W b)) : PE X (.BoolOp .Or (x :: z :: rest) pos) (tE cl W (.or a b)) := by
  refine PE.by (pe_or ha hy) fun g ρ m ls tmp fr σ H Q hR h => ⟨g, ρ, m, ls, tmp, fr, hR, Aft.bind0 h fun p m1 v g1 H1 l1 _ le1 res1 R1 h1 => ?_⟩
  cases e : isTr p with
  | none => rw [e] at h1; exact h1.elim
  | some c =>
    rw [e] at h1
    refine ⟨c, isTr_rep res1 e, ?_⟩
    cases c with
    | true => exact h1 _ g1 H1 [] (.refl g1) (res_p (by simp only [Rep])) R1.drop
    | false => exact ⟨g1, ρ, m1, ls, tmp, fr, R1.drop, h1⟩
/-! ### tests -/
theorem PT.by {e : Expr} {ir : E} {t : TT} (base : PT X e t) (h : ∀ g ρ m ls tmp fr σ H Q, Rel cl g ρ m ls tmp fr σ H → Aft cl W RlB g ρ ls tmp fr σ Q ((ev ir ρ m).bind fun r m1 => match isTr r with | some b => .ok (.p (.bl b)) m1 | none => .bad) → t σ H Q) : PT X e (tT cl W ir) :=
  ⟨fun pins s σ H Q I ⟨g, ρ, m, ls, tmp, fr, hR, ha⟩ => base.run pins s σ H Q I (h g ρ m ls tmp fr σ H Q hR ha)⟩
theorem tT_of {Q : Bool → Hp → Prop} (hR : Rel cl g ρ m ls tmp fr σ H) (h : Aft cl W RlB g ρ ls tmp fr σ Q ((ev a ρ m).bind fun r m1 => match isTr r with | some b => .ok (.p (.bl b)) m1 | none => .bad)) :
    tE cl W a σ H fun x H1 => ∃ c, x = .bl c ∧ Q c H1 := by
  refine ⟨g, ρ, m, ls, tmp, fr, hR, Aft.bind0 h fun p m1 v g1 H1 l1 _ le1 res1 R1 h1 => ?_⟩
  cases e : isTr p with
  | none => rw [e] at h1; exact h1.elim
  | some c =>
    rw [e] at h1
    exact ⟨c, isTr_rep res1 e, h1 c g1 H1 [] (.refl g1) ⟨rfl, rfl⟩ R1.drop⟩
theorem sT_val (h : PE X x (tE cl W a)) (he : ∀ whole, isTrue x X.env whole = (do let v ← whole; standAt x.pos; holding [v] (truthy v))) : PT X x (tT cl W a) :=
  PT.by (pt_val h he) fun g ρ m ls tmp fr σ H Q hR ha => tT_of hR ha
theorem sT_cmp (C : CtxOk X W N sc) {op : CmpOp} (ha : PE X x (tE cl W a)) (hb : PE X y (tE cl W b)) (hm : behindInMarks op y = false) : PT X (.Compare x [op] [y] pos) (tT cl W (.cmp op a b)) := by
  obtain ⟨r, ho, hp⟩ := cmp_ok (X := X) (by have := C.un; omega) op
  refine PT.by (pt_cmpR (pos := pos) ho ha hb hm) fun g ρ m ls tmp fr σ H Q hR h => ?_
  refine ⟨g, ρ, m, ls, tmp, fr, hR, ?_⟩
  have h : Aft cl W RlB g ρ ls tmp fr σ Q ((ev a ρ m).bind fun x m1 => ((ev b ρ m1).bind fun y m2 => .of ((cmpS op x y).map fun b => R.p (.bl b)) m2).bind fun r m1 => match isTr r with | some b => .ok (.p (.bl b)) m1 | none => .bad) := by
    cases e : ev a ρ m with
    | ok p m1 => simpa [ev, e, Out.bind] using h
    | exc c m1 => simpa [ev, e, Out.bind] using h
    | bad => simp [ev, e, Out.bind] at h; exact h.elim
  refine Aft.bind0 h fun p m1 v g1 H1 l1 _ le1 res1 R1 h1 => ⟨g1, ρ, m1, ls, l1 ++ tmp, fr, R1, ?_⟩
  have h1 : Aft cl W RlB g1 ρ ls tmp fr σ Q ((ev b ρ m1).bind fun y m2 => (Out.of ((cmpS op p y).map fun b => R.p (.bl b)) m2).bind fun r m1 => match isTr r with | some b => .ok (.p (.bl b)) m1 | none => .bad) := by
    cases e : ev b ρ m1 with
    | ok q m2 => simpa [e, Out.bind] using h1
    | exc c m2 => simpa [e, Out.bind] using h1
    | bad => simp [e, Out.bind] at h1; exact h1.elim
  refine Aft.bind h1 fun q m2 u g2 H2 l2 _ le2 res2 R2 h2 => ?_
  refine prim_end2 (W := W) (cl := cl) (tmp := tmp) hp (res1.mono le2) res2 R2 ?_
  show Aft cl W ResR g2 ρ ls tmp fr σ _ (Out.of (cmpR op p q) m2)
  unfold cmpR
  cases e : cmpS op p q with
  | none => rw [e] at h2; exact h2.elim
  | some k =>
    rw [e] at h2
    intro v g3 H3 l3 le3 r3 R3
    exact ⟨k, isTr_rep r3 rfl, h2 k g3 H3 [] le3 ⟨rfl, rfl⟩ R3.drop⟩

theorem sT_not (ha : PT X x (tT cl W a)) : PT X (.UnaryOp .Not x pos) (tT cl W (.not a)) := by
  refine PT.by (pt_not (pos := pos) ha) fun g ρ m ls tmp fr σ H Q hR h => ⟨g, ρ, m, ls, tmp, fr, hR, ?_⟩
  have e1 : Aft cl W RlB g ρ ls tmp fr σ Q (((ev a ρ m).bind fun r m1 => match isTr r with | some b => Out.ok (R.p (.bl b)) m1 | none => .bad).bind fun r m1 => match isTr r with | some b => .ok (R.p (.bl (!b))) m1 | none => .bad) := by
    cases e : ev a ρ m with
    | ok p m1 =>
      cases e2 : isTr p with
      | none => simp [ev, e, Out.bind, e2, Out.of] at h; exact h.elim
      | some c => simpa [ev, e, Out.bind, e2, Out.of, isTr_p] using h
    | exc c m1 => simpa [ev, e, Out.bind] using h
    | bad => simp [ev, e, Out.bind] at h; exact h.elim
  refine Aft.bind0 e1 fun p m1 c g1 H1 l1 _ le1 res1 R1 h1 => ?_
  obtain ⟨e2, rfl⟩ := res1
  rw [e2] at h1
  exact h1 (!c) g1 H1 [] (.refl g1) ⟨rfl, rfl⟩ R1
theorem PT.pw {op : BoolOp} {vs : List Expr} {t : TT} (h : PT X (.BoolOp op vs pos) t) : PW X (.BoolOp op vs pos) t := ⟨fun wh pins s σ H Q I hw => by
  have := h.run pins s σ H Q I hw
  simp only [PySem.isTrue] at this ⊢
  exact this⟩
/-- the rest of an and, an or, as a test -/
theorem and_tail {t : TT} {rest : List Expr} (h1 : rest = [] → PT X y t) (h2 : rest ≠ [] → PT X (.BoolOp .And (y :: rest) pos) t) : PW X (.BoolOp .And (y :: rest) pos) t := by
  cases rest with
  | nil => exact pw_and1 (h1 rfl)
  | cons z r => exact PT.pw (h2 (by simp))
theorem or_tail {t : TT} {rest : List Expr} (h1 : rest = [] → PT X y t) (h2 : rest ≠ [] → PT X (.BoolOp .Or (y :: rest) pos) t) : PW X (.BoolOp .Or (y :: rest) pos) t := by
  cases rest with
  | nil => exact pw_or1 (h1 rfl)
  | cons z r => exact PT.pw (h2 (by simp))
theorem sT_and {rest : List Expr} (ha : PT X x (tT cl W a)) (hy : PW X (.BoolOp .And (z :: rest) pos) (tT cl W b)) : PT X (.BoolOp .And (x :: z :: rest) pos) (tT cl W (.and a b)) := by
  refine PT.by (pw_and ha hy).pt fun g ρ m ls tmp fr σ H Q hR h => ⟨g, ρ, m, ls, tmp, fr, hR, ?_⟩
  have e1 : Aft cl W RlB g ρ ls tmp fr σ Q (((ev a ρ m).bind fun r m1 => match isTr r with | some b => Out.ok (R.p (.bl b)) m1 | none => .bad).bind fun r m1 => match isTr r with
      | some true => (ev b ρ m1).bind fun r m1 => (match isTr r with | some b => Out.ok (R.p (.bl b)) m1 | none => .bad)
      | some false => .ok (R.p (.bl false)) m1
      | none => .bad) := by
    cases e : ev a ρ m with
    | ok p m1 =>
      cases e2 : isTr p with
      | none => simp [ev, e, Out.bind, e2] at h; exact h.elim
      | some c => cases c <;> simpa [ev, e, Out.bind, e2, isTr_p] using h
    | exc c m1 => simpa [ev, e, Out.bind] using h
    | bad => simp [ev, e, Out.bind] at h; exact h.elim
  refine Aft.bind0 e1 fun p m1 c g1 H1 l1 _ le1 res1 R1 h1 => ?_
  obtain ⟨e2, rfl⟩ := res1
  rw [e2] at h1
  cases c with
  | true => exact ⟨g1, ρ, m1, ls, tmp, fr, R1, h1⟩
  | false => exact h1 false g1 H1 [] (.refl g1) ⟨rfl, rfl⟩ R1
theorem sT_or {rest : List Expr} (ha : PT X x (tT cl W a)) (hy : PW X (.BoolOp .Or (z :: rest) pos) (tT cl W b)) : PT X (.BoolOp .Or (x :: z :: rest) pos) (tT cl W (.or a b)) := by
  refine PT.by (pw_or ha hy).pt fun g ρ m ls tmp fr σ H Q hR h => ⟨g, ρ, m, ls, tmp, fr, hR, ?_⟩
  have e1 : Aft cl W RlB g ρ ls tmp fr σ Q (((ev a ρ m).bind fun r m1 => match isTr r with | some b => Out.ok (R.p (.bl b)) m1 | none => .bad).bind fun r m1 => match isTr r with
      | some true => .ok (R.p (.bl true)) m1
      | some false => (ev b ρ m1).bind fun r m1 => (match isTr r with | some b => Out.ok (R.p (.bl b)) m1 | none => .bad)
      | none => .bad) := by
    cases e : ev a ρ m with
    | ok p m1 =>
      cases e2 : isTr p with
      | none => simp [ev, e, Out.bind, e2] at h; exact h.elim
      | some c => cases c <;> simpa [ev, e, Out.bind, e2, isTr_p] using h
    | exc c m1 => simpa [ev, e, Out.bind] using h
    | bad => simp [ev, e, Out.bind] at h; exact h.elim
  refine Aft.bind0 e1 fun p m1 c g1 H1 l1 _ le1 res1 R1 h1 => ?_
  obtain ⟨e2, rfl⟩ := res1
  rw [e2] at h1
  cases c with
  | true => exact h1 true g1 H1 [] (.refl g1) ⟨rfl, rfl⟩ R1
  | false => exact ⟨g1, ρ, m1, ls, tmp, fr, R1, h1⟩
/-! ### a chain of two comparisons -/
theorem chain_run {op op' : CmpOp} {r r' : R2} (hp : PrimR ResR (sem2 (cmpR op)) (r2L r)) (hp' : PrimR ResR (sem2 (cmpR op')) (r2L r')) (hR : Rel cl g ρ m ls tmp fr σ H) (h : Aft cl W ResR g ρ ls tmp fr σ Q (ev (.cmp2 op op' a b c) ρ m)) :
    tChain r r' (tE cl W a) (tE cl W b) (tE cl W c) σ H Q := by
  refine ⟨g, ρ, m, ls, tmp, fr, hR, Aft.bind0 h fun p m1 v g1 H1 l1 _ le1 res1 R1 h1 => ⟨g1, ρ, m1, ls, l1 ++ tmp, fr, R1, Aft.bind h1 fun q m2 u g2 H2 l2 _ le2 res2 R2 h2 => ?_⟩⟩
  cases eq : q.pd with
  | none => rw [eq] at h2; exact h2.elim
  | some d =>
    rw [eq] at h2
    have hd := res_rep res2 (pd_f eq)
    refine prim_end2 (W := W) (cl := cl) (tmp := tmp) hp (res1.mono le2) (res_p hd) R2.drop ?_
    show Aft cl W ResR g2 ρ ls tmp fr σ _ (Out.of (cmpR op p (.p d)) m2)
    unfold cmpR
    cases e : cmpS op p (.p d) with
    | none => simp only [e] at h2; exact h2.elim
    | some k =>
      intro v3 g3 H3 l3 le3 r3 R3
      refine ⟨k, isTr_rep r3 rfl, ?_⟩
      cases k with
      | false =>
        simp only [e] at h2
        exact h2 _ g3 H3 [] le3 (res_p (by simp only [Rep])) R3.drop
      | true =>
        simp only [e] at h2
        refine ⟨g3, ρ, m2, ls, tmp, fr, R3.drop, Aft.bind0 (Aft.le le3 h2) fun z m4 w g4 H4 l4 _ le4 res4 R4 h4 => ?_⟩
        exact prim_end2 (W := W) (cl := cl) (tmp := tmp) (l1 := []) hp' (res_p (Rep.mono (le3.trans le4) _ _ hd)) res4 R4 h4
theorem sE_cmp2 (C : CtxOk X W N sc) {op op' : CmpOp} (ha : PE X x (tE cl W a)) (hb : PE X y (tE cl W b)) (hc : PE X z (tE cl W c)) (hm : behindInMarks op' z = false) : PE X (.Compare x [op, op'] [y, z] pos) (tE cl W (.cmp2 op op' a b c)) := by
  obtain ⟨r, ho, hp⟩ := cmp_ok (X := X) (by have := C.un; omega) op
  obtain ⟨r', ho', hp'⟩ := cmp_ok (X := X) (by have := C.un; omega) op'
  exact PE.by (pe_chain (pos := pos) ho ho' ha hb hc (by simp only [lastMarks]; exact hm)) fun g ρ m ls tmp fr σ H Q hR h => chain_run hp hp' hR h
theorem sT_cmp2 (C : CtxOk X W N sc) {op op' : CmpOp} (ha : PE X x (tE cl W a)) (hb : PE X y (tE cl W b)) (hc : PE X z (tE cl W c)) (hm : behindInMarks op' z = false) : PT X (.Compare x [op, op'] [y, z] pos) (tT cl W (.cmp2 op op' a b c)) := by
  obtain ⟨r, ho, hp⟩ := cmp_ok (X := X) (by have := C.un; omega) op
  obtain ⟨r', ho', hp'⟩ := cmp_ok (X := X) (by have := C.un; omega) op'
  refine PT.by (pt_chain (pos := pos) ho ho' ha hb hc (by simp only [lastMarks]; exact hm)) fun g ρ m ls tmp fr σ H Q hR h => ?_
  refine chain_run (W := W) hp hp' hR ?_
  cases e : ev (.cmp2 op op' a b c) ρ m with
  | bad => rw [e] at h; exact h.elim
  | exc k m1 => rw [e] at h; exact h
  | ok p m1 =>
    rw [e] at h
    intro v g3 H3 l3 le3 r3 R3
    cases e2 : isTr p with
    | none => simp only [Out.bind, e2] at h; exact h.elim
    | some k =>
      simp only [Out.bind, e2] at h
      exact ⟨k, isTr_rep r3 e2, h k g3 H3 [] le3 ⟨rfl, rfl⟩ R3.drop⟩
/-! ### the rest of the plain ones -/
theorem sE_ifx {t : Expr} (hc : PT X t (tT cl W c)) (ha : PE X x (tE cl W a)) (hb : PE X y (tE cl W b)) : PE X (.IfExp t x y pos) (tE cl W (.ifx c a b)) := by
  refine PE.by (pe_ifExp (pos := pos) hc ha hb) fun g ρ m ls tmp fr σ H Q hR h => ⟨g, ρ, m, ls, tmp, fr, hR, ?_⟩
  have e1 : Aft cl W ResR g ρ ls tmp fr σ Q (((ev c ρ m).bind fun r m1 => match isTr r with | some b => Out.ok (R.p (.bl b)) m1 | none => .bad).bind fun r m1 => match isTr r with
      | some true => ev a ρ m1
      | some false => ev b ρ m1
      | none => .bad) := by
    cases e : ev c ρ m with
    | ok p m1 =>
      cases e2 : isTr p with
      | none => simp [ev, e, Out.bind, e2] at h; exact h.elim
      | some c => cases c <;> simpa [ev, e, Out.bind, e2, isTr_p] using h
    | exc c m1 => simpa [ev, e, Out.bind] using h
    | bad => simp [ev, e, Out.bind] at h; exact h.elim
  refine Aft.bind0 e1 fun p m1 k g1 H1 l1 _ le1 res1 R1 h1 => ?_
  obtain ⟨e2, rfl⟩ := res1
  rw [e2] at h1
  cases k with
  | true => exact ⟨g1, ρ, m1, ls, tmp, fr, R1, h1⟩
  | false => exact ⟨g1, ρ, m1, ls, tmp, fr, R1, h1⟩
theorem plain_ix {e : Expr} (h : noSlice e = true) : PlainIx e := by
  intro o i
  cases e <;> first | rfl | (simp [noSlice] at h)
theorem sE_sub (C : CtxOk X W N sc) (ha : PE X x (tE cl W a)) (hb : PE X y (tE cl W b)) (hs : noSlice y = true) : PE X (.Subscript x y pos) (tE cl W (.sub a b)) := by
  obtain ⟨r, ho, hp⟩ := sub_ok (X := X) (by have := C.un; omega)
  exact PE.by (pe_ix (pos := pos) ho ha hb (plain_ix hs)) fun g ρ m ls tmp fr σ H Q hR h => step2 hp hR h
/-- a part of a slice -/
def tP (cl : Cl) (W : WX) (e : E) : TO := fun σ H Q => ∃ g ρ m ls tmp fr, Rel cl g ρ m ls tmp fr σ H ∧ Aft cl W (fun _ o o' l _ => o = o' ∧ l = []) g ρ ls tmp fr σ Q (part e (ev e ρ m))
theorem sP_none : PO X none (tP cl W .no) := by
  refine ⟨fun pins s σ H Q I ⟨g, ρ, m, ls, tmp, fr, hR, h⟩ => po_none.run pins s σ H Q I ?_⟩
  exact h none g H [] (.refl g) ⟨rfl, rfl⟩ hR
theorem sP_some (h1 : PE X x (tE cl W a)) (hn : a ≠ .no) : PO X (some x) (tP cl W a) := by
  refine ⟨fun pins s σ H Q I ⟨g, ρ, m, ls, tmp, fr, hR, h⟩ => (po_some h1).run pins s σ H Q I ⟨g, ρ, m, ls, tmp, fr, hR, ?_⟩⟩
  have e : part a (ev a ρ m) = (ev a ρ m).bind fun r m => match r.f with | .d (.int i) => .ok (some i) m | _ => .bad := by
    cases a <;> first | rfl | exact absurd rfl hn
  rw [e] at h
  refine Aft.bind0 h fun p m1 v g1 H1 l1 _ le1 res1 R1 h1 => ?_
  split at h1
  · rename_i i ei
    exact ⟨i, res_int res1 ei, h1 (some i) g1 H1 [] (.refl g1) ⟨rfl, rfl⟩ R1.drop⟩
  · exact h1.elim
theorem sE_slice {lo hi : E} {l h : Option Expr} {p2 : Pos} (ha : PE X x (tE cl W a)) (hl : PO X l (tP cl W lo)) (hh : PO X h (tP cl W hi)) : PE X (.Subscript x (.Slice l h none p2) pos) (tE cl W (.slice a lo hi)) := by
  obtain ⟨r, ho, hp⟩ := slice_ok (X := X)
  refine PE.by (pe_slice (pos := pos) (p2 := p2) ho ha hl hh) fun g ρ m ls tmp fr σ H Q hR h => ⟨g, ρ, m, ls, tmp, fr, hR, Aft.bind0 h fun p m1 v g1 H1 l1 _ le1 res1 R1 h1 => ?_⟩
  refine ⟨g1, ρ, m1, ls, l1 ++ tmp, fr, R1, Aft.bind h1 fun o m2 o' g2 H2 l2 _ le2 res2 R2 h2 => ?_⟩
  obtain ⟨rfl, rfl⟩ := res2
  refine ⟨g2, ρ, m2, ls, l1 ++ tmp, fr, R2, Aft.bind h2 fun q m3 q' g3 H3 l3 _ le3 res3 R3 h3 => ?_⟩
  obtain ⟨rfl, rfl⟩ := res3
  obtain ⟨z, e, k⟩ := prim_end1 (W := W) (hp o q) ((res1.mono le2).mono le3) R3 h3
  cases e
  exact k
theorem sE_rev {bb : Bool} {hi : Option Expr} {k : Nat} {p1 p2 p3 : Pos} (ha : PE X x (tE cl W a)) (hh : (bb = false ∧ hi = none) ∨ (bb = true ∧ ∃ k p, hi = some (.Constant (.int 0) k p))) : PE X (.Subscript x (.Slice none hi (some (.UnaryOp .USub (.Constant (.int 1) k p1) p2)) p3) pos) (tE cl W (.rev bb a)) := by
  refine PE.by (pe_rev (pos := pos) (p1 := p1) (p2 := p2) (p3 := p3) (k := k) ha hh) fun g ρ m ls tmp fr σ H Q hR h => ⟨g, ρ, m, ls, tmp, fr, hR, Aft.bind0 h fun p m1 v g1 H1 l1 _ le1 res1 R1 h1 => ?_⟩
  obtain ⟨z, e, k⟩ := prim_end1 (W := W) (rev_ok (X := X) bb) res1 R1 h1
  cases e
  exact k
end
end VS

/-! VSn: argument lists, displays, calls. -/
namespace VS
open PySem PySem.Spec PyProof.Rows L2
section
variable {cl : Cl} {X : Cx} {W : WX} {N : List Str} {sc : Scope} {g : Gh} {ρ : Env} {m : Mem} {ls tmp fr : PL} {σ : L2.St} {H : Hp} {Q : VK} {a b c es : E} {x y z : Expr} {xs : List Expr} {pos : Pos}
/-! ### lists of arguments -/
theorem ck_star : ∀ (ir : E) {x : Expr} {p : Pos}, ckE N ir sc (.Starred x p) = false
  | .frz a, x, p => by simp only [ckE]; exact ck_star a
  | .no, _, _ => rfl | .var _, _, _ => rfl | .cst _, _, _ => rfl | .glb _ _, _, _ => rfl | .bin _ _ _, _, _ => rfl | .neg _, _, _ => rfl | .not _, _, _ => rfl | .cmp _ _ _, _, _ => rfl | .cmp2 _ _ _ _ _, _, _ => rfl
  | .and _ _, _, _ => rfl | .or _ _, _, _ => rfl | .ifx _ _ _, _, _ => rfl | .sub _ _, _, _ => rfl | .slice _ _ _, _, _ => rfl | .tup _, _, _ => rfl | .lst _, _, _ => rfl | .dnew, _, _ => rfl | .call _ _ _, _, _ => rfl
  | .rev _ _, _, _ => rfl | .bi _ _, _, _ => rfl | .isi _ _, _, _ => rfl | .mth _ _ _, _, _ => rfl | .comp _ _ _ _ _ _, _, _ => rfl | .cons _ _, _, _ => rfl
theorem star_of {e : Expr} {es : List Expr} {ir : E} (h : ckE N ir sc e = true) (env : PySem.Env) : starEach (e :: es) env = (false, eval e env) :: starEach es env := by
  cases e <;> first | rfl | (rw [ck_star ir] at h; cases h)
theorem star_all : ∀ {ir : E} {es : List Expr} (env : PySem.Env), ckA N ir sc es = true → starEach es env = es.map fun e => (false, eval e env)
  | .no, es, env, h => by
    cases es with
    | nil => rfl
    | cons _ _ => simp [ckA] at h
  | .cons e r, es, env, h => by
    cases es with
    | nil => simp [ckA] at h
    | cons x xs =>
      simp only [ckA, Bool.and_eq_true] at h
      rw [star_of h.1, star_all env h.2]
      rfl
  | .var _, es, _, h => by simp [ckA] at h
  | .cst _, es, _, h => by simp [ckA] at h
  | .glb _ _, es, _, h => by simp [ckA] at h
  | .bin _ _ _, es, _, h => by simp [ckA] at h
  | .neg _, es, _, h => by simp [ckA] at h
  | .not _, es, _, h => by simp [ckA] at h
  | .cmp _ _ _, es, _, h => by simp [ckA] at h
  | .cmp2 _ _ _ _ _, es, _, h => by simp [ckA] at h
  | .and _ _, es, _, h => by simp [ckA] at h
  | .or _ _, es, _, h => by simp [ckA] at h
  | .ifx _ _ _, es, _, h => by simp [ckA] at h
  | .sub _ _, es, _, h => by simp [ckA] at h
  | .slice _ _ _, es, _, h => by simp [ckA] at h
  | .tup _, es, _, h => by simp [ckA] at h
  | .rev _ _, es, _, h => by simp [ckA] at h
  | .lst _, es, _, h => by simp [ckA] at h
  | .dnew, es, _, h => by simp [ckA] at h
  | .call _ _ _, es, _, h => by simp [ckA] at h
  | .bi _ _, es, _, h => by simp [ckA] at h
  | .isi _ _, es, _, h => by simp [ckA] at h
  | .mth _ _ _, es, _, h => by simp [ckA] at h
  | .comp _ _ _ _ _ _, es, _, h => by simp [ckA] at h
  | .frz _, es, _, h => by simp [ckA] at h
theorem back_any {es : List Expr} {env : PySem.Env} {p : Pos} (h : starEach es env = es.map fun e => (false, eval e env)) : (backTo p (starEach es env)).any (·.1) = false := by
  rw [h]
  clear h
  induction es with
  | nil => rfl
  | cons e r ih => exact ih
theorem back_few {es : List Expr} {env : PySem.Env} {p : Pos} (h : starEach es env = es.map fun e => (false, eval e env)) (hl : es.length < 30) :
    ((backTo p (starEach es env)).all (fun x => !x.1) && (backToKw p (keywordEach [] env)).all (fun x => x.1.isSome) && decide (es.length + ([] : List Keyword).length + (if ([] : List Keyword).isEmpty then 0 else 1) < 30)) = true := by
  have h1 : (backTo p (starEach es env)).all (fun x => !x.1) = true := by
    rw [h]
    clear h hl
    induction es with
    | nil => rfl
    | cons e r ih => exact ih
  rw [h1]
  simp [backToKw, keywordEach, hl]
theorem evs_len : ∀ {es : E} {xs : List Expr} {ρ : Env} {m m1 : Mem} {rs : List R}, ckA N es sc xs = true → evs es ρ m = .ok rs m1 → rs.length = xs.length
  | .no, xs, ρ, m, m1, rs, h, e => by
    cases xs with
    | nil => simp only [evs, Out.ok.injEq] at e; rw [← e.1]; rfl
    | cons _ _ => simp [ckA] at h
  | .cons a es, xs, ρ, m, m1, rs, h, e => by
    cases xs with
    | nil => simp [ckA] at h
    | cons x xs =>
      simp only [ckA, Bool.and_eq_true] at h
      simp only [evs] at e
      cases e1 : ev a ρ m with
      | bad => simp [e1, Out.bind] at e
      | exc c m2 => simp [e1, Out.bind] at e
      | ok r m2 =>
        cases e2 : evs es ρ m2 with
        | bad => simp [e1, e2, Out.bind] at e
        | exc c m2 => simp [e1, e2, Out.bind] at e
        | ok rs' m3 =>
          simp only [e1, e2, Out.bind, Out.ok.injEq] at e
          rw [← e.1, List.length_cons, List.length_cons, evs_len h.2 e2]
  | .var _, es, _, _, _, _, h, _ => by simp [ckA] at h
  | .cst _, es, _, _, _, _, h, _ => by simp [ckA] at h
  | .glb _ _, es, _, _, _, _, h, _ => by simp [ckA] at h
  | .bin _ _ _, es, _, _, _, _, h, _ => by simp [ckA] at h
  | .neg _, es, _, _, _, _, h, _ => by simp [ckA] at h
  | .not _, es, _, _, _, _, h, _ => by simp [ckA] at h
  | .cmp _ _ _, es, _, _, _, _, h, _ => by simp [ckA] at h
  | .cmp2 _ _ _ _ _, es, _, _, _, _, h, _ => by simp [ckA] at h
  | .and _ _, es, _, _, _, _, h, _ => by simp [ckA] at h
  | .or _ _, es, _, _, _, _, h, _ => by simp [ckA] at h
  | .ifx _ _ _, es, _, _, _, _, h, _ => by simp [ckA] at h
  | .sub _ _, es, _, _, _, _, h, _ => by simp [ckA] at h
  | .slice _ _ _, es, _, _, _, _, h, _ => by simp [ckA] at h
  | .tup _, es, _, _, _, _, h, _ => by simp [ckA] at h
  | .rev _ _, es, _, _, _, _, h, _ => by simp [ckA] at h
  | .lst _, es, _, _, _, _, h, _ => by simp [ckA] at h
  | .dnew, es, _, _, _, _, h, _ => by simp [ckA] at h
  | .call _ _ _, es, _, _, _, _, h, _ => by simp [ckA] at h
  | .bi _ _, es, _, _, _, _, h, _ => by simp [ckA] at h
  | .isi _ _, es, _, _, _, _, h, _ => by simp [ckA] at h
  | .mth _ _ _, es, _, _, _, _, h, _ => by simp [ckA] at h
  | .comp _ _ _ _ _ _, es, _, _, _, _, h, _ => by simp [ckA] at h
  | .frz _, es, _, _, _, _, h, _ => by simp [ckA] at h
theorem PA.by {ir : E} {t : TA} (base : PA X xs t) (h : ∀ g ρ m ls tmp fr σ H Q, Rel cl g ρ m ls tmp fr σ H → Aft cl W Ress g ρ ls tmp fr σ Q (evs ir ρ m) → t σ H Q) : PA X xs (tA cl W ir) :=
  ⟨fun p pins s σ H Q I ⟨g, ρ, m, ls, tmp, fr, hR, ha⟩ => base.run p pins s σ H Q I (h g ρ m ls tmp fr σ H Q hR ha)⟩
theorem sA_nil : PA X [] (tA cl W .no) := PA.by pa_nil fun g ρ m ls tmp fr σ H Q hR ha => ha [] g H [] (.refl g) ⟨rfl, rfl⟩ hR
theorem sA_cons (h1 : PE X x (tE cl W a)) (h2 : PA X xs (tA cl W es)) (hs : starEach (x :: xs) X.env = (false, eval x X.env) :: starEach xs X.env) : PA X (x :: xs) (tA cl W (.cons a es)) := by
  refine PA.by (pa_cons h1 h2 hs) fun g ρ m ls tmp fr σ H Q hR ha => ⟨g, ρ, m, ls, tmp, fr, hR, ?_⟩
  have ha : Aft cl W Ress g ρ ls tmp fr σ Q ((ev a ρ m).bind fun r m1 => (evs es ρ m1).bind fun rs m2 => .ok (r :: rs) m2) := ha
  refine Aft.bind0 ha fun p m1 v g1 H1 l1 _ le1 res1 R1 h1 => ⟨g1, ρ, m1, ls, l1 ++ tmp, fr, R1, Aft.bind h1 fun rs m2 vs g2 H2 l2 _ le2 res2 R2 h2 => ?_⟩
  rw [← List.append_assoc] at R2
  exact h2 (v :: vs) g2 H2 (l2 ++ l1) (.refl g2) (ress_cons (res1.mono le2) res2) R2
/-! ### displays -/
theorem vals_owns {g : Gh} : ∀ {rs : List R} {fs : List F} {vs : List V} {l Pv : PL}, R.vals rs = some fs → Ress g rs vs l Pv → ∃ l', l'.Perm l ∧ Owns g fs vs l'
  | [], fs, vs, l, Pv, e, h => by
    simp only [R.vals, Option.some.injEq] at e
    subst e
    exact ⟨[], by rw [h.2], by simp only [Owns]; exact ⟨h.1, trivial⟩⟩
  | .v f :: rs, fs, vs, l, Pv, e, h => by
    simp only [R.vals, Option.map_eq_some_iff] at e
    obtain ⟨fs', e1, rfl⟩ := e
    obtain ⟨v, t, l1, l2, rfl, rfl, q1, q2⟩ := h
    obtain ⟨l', p, o⟩ := vals_owns e1 q2
    refine ⟨l1 ++ l', (List.perm_append_comm.trans (p.append_right l1)), ?_⟩
    simp only [Owns]
    exact ⟨v, t, l1, l', rfl, rfl, q1, o⟩
  | .w _ :: _, _, _, _, _, e, _ => by simp [R.vals] at e
theorem line1000 {n : Nat} (h : n < 1000) : n ≤ sizeLine := Nat.le_trans (Nat.le_of_lt h) (by decide)
theorem sE_tup {k : Nat} (h : PA X xs (tA cl W es)) (hc : ckA N es sc xs = true) (hl : xs.length < 1000) : PE X (.Tuple xs k pos) (tE cl W (.tup es)) := by
  refine PE.by (pe_tup (pos := pos) (x1 := k) h) fun g ρ m ls tmp fr σ H Q hR ha => ⟨g, ρ, m, ls, tmp, fr, hR, Aft.bind0 ha fun rs m1 vs g1 H1 l1 e1 le1 res1 R1 h1 => ?_⟩
  refine ⟨by rw [res1.length, evs_len hc e1]; exact line1000 hl, fun p hp => ?_⟩
  cases ev : R.vals rs with
  | none => rw [ev] at h1; exact h1.elim
  | some fs =>
    rw [ev] at h1
    obtain ⟨l', pm, o⟩ := vals_owns ev res1
    obtain ⟨s, lc, c, G⟩ := R1
    have G1 : Good g1.B (l' ++ (tmp ++ (ls ++ (lc ++ fr)))) H1 := by
      rw [List.append_assoc] at G
      exact G.perm (pm.symm.append_right _)
    obtain ⟨G2, kk⟩ := G1.ice (o := .tup vs) hp
    have c2 := c.mono (Gh.le.put kk)
    have s2 := s.mono (Gh.le.put kk)
    have h1 : Aft cl W ResR g1 ρ ls tmp fr σ Q (.ok (.v (F.mkT fs)) m1) := h1
    unfold F.mkT at h1
    split at h1
    · rename_i ds ep
      obtain ⟨q1, rfl⟩ := pures_owns ep o
      refine h1 _ (g1.put p (.tup vs)) _ [] (.put kk) (res_p ?_) ⟨s2, lc, c2, G2⟩
      simp only [Rep]
      exact ⟨p, vs, rfl, Gh.put_at, Reps.mono (.put kk) _ _ q1⟩
    · refine h1 _ (g1.put p (.tup vs)) _ l' (.put kk) ?_ ⟨s2, lc, c2, by rw [List.append_assoc]; exact G2⟩
      show Own _ (.tup fs) _ _
      simp only [Own]
      exact ⟨p, vs, rfl, Gh.put_at, Owns.mono (.put kk) _ _ _ o⟩
theorem sE_lst (h : PA X xs (tA cl W es)) (hc : ckA N es sc xs = true) (hl : xs.length < 1000) : PE X (.List xs pos) (tE cl W (.lst es)) := by
  refine PE.by (pe_lst (pos := pos) h) fun g ρ m ls tmp fr σ H Q hR ha => ⟨g, ρ, m, ls, tmp, fr, hR, Aft.bind0 ha fun rs m1 vs g1 H1 l1 e1 le1 res1 R1 h1 => ?_⟩
  refine ⟨by rw [res1.length, evs_len hc e1]; exact line1000 hl, fun p hp => ?_⟩
  cases ev : R.vals rs with
  | none => rw [ev] at h1; exact h1.elim
  | some fs =>
    rw [ev] at h1
    obtain ⟨l', pm, o⟩ := vals_owns ev res1
    obtain ⟨s, lc, c, G⟩ := R1
    have G1 : Good g1.B (l' ++ (tmp ++ (ls ++ (lc ++ fr)))) H1 := by
      rw [List.append_assoc] at G
      exact G.perm (pm.symm.append_right _)
    have G2 := G1.new (o := .lst vs) hp rfl
    have h1 : Aft cl W ResR g1 ρ ls tmp fr σ Q (.ok (.v (.lst fs)) m1) := h1
    refine h1 _ g1 _ ((p, .lst vs) :: l') (.refl g1) ?_ ⟨s, lc, c, by rw [List.cons_append, List.cons_append, List.append_assoc]; exact G2⟩
    show Own _ (.lst fs) _ _
    simp only [Own]
    exact ⟨p, vs, l', rfl, rfl, o⟩
theorem sE_dnew : PE X (.Dict [] [] pos) (tE cl W .dnew) := by
  refine PE.by (pe_dnewK (pos := pos)) fun g ρ m ls tmp fr σ H Q hR ha => fun p hp => ?_
  obtain ⟨s, lc, c, G⟩ := hR
  refine ha _ g _ [(p, .dK [])] (.refl g) ?_ ⟨s, lc, c, G.new hp rfl⟩
  show Own _ (.dct []) _ _
  simp only [Own]
  exact ⟨p, [], rfl, .inl ⟨[], rfl, by simp only [OwnK]; exact ⟨trivial, trivial⟩⟩⟩
/-! ### calls -/
theorem pe_bi {b : Bi} {n : Str} {p : Pos} {e : Expr} {t : TA} {r : List V → Hp → VK → Prop} (hc : CallR X b.val r) (hn : n = b.name) (hg : Gl X n) (hm : X.mg n = none) (ha : PA X (e :: xs) t)
    (he : starEach (e :: xs) X.env = (false, eval e X.env) :: starEach xs X.env) (hpl : (backTo pos (starEach xs X.env)).any (·.1) = false) : PE X (.Call (.Name n p) (e :: xs) [] pos) (tCB r t) := by
  have hb := bi_boot b
  rw [← hn] at hb
  have n1 : n ≠ "__name__" := by subst hn; cases b <;> decide
  have n2 : (n == ("__debug__" : Str)) = false := by subst hn; cases b <;> decide
  cases b <;> first | exact pe_callB hc hg hm hb ha n1 n2 he hpl | exact pe_callTy hc hg hm hb ha n1 n2 he hpl
theorem sE_bi (C : CtxOk X W N sc) {b : Bi} {n : Str} {p : Pos} {e : Expr} (hn : n = b.name) (hg : glB sc n = true) (ha : PA X (e :: xs) (tA cl W es)) (hk : ckA N es sc (e :: xs) = true) : PE X (.Call (.Name n p) (e :: xs) [] pos) (tE cl W (.bi b es)) := by
  obtain ⟨r, ho, hp⟩ := bi_ok (X := X) C.calm b
  have hst := star_all X.env hk
  have he : starEach (e :: xs) X.env = (false, eval e X.env) :: starEach xs X.env := by
    cases es <;> simp only [ckA, Bool.false_eq_true, Bool.and_eq_true] at hk
    exact star_of hk.1 X.env
  have hpl : (backTo pos (starEach xs X.env)).any (·.1) = false := by
    cases es <;> simp only [ckA, Bool.false_eq_true, Bool.and_eq_true] at hk
    exact back_any (star_all X.env hk.2)
  refine PE.by (pe_bi (pos := pos) (p := p) ho hn (C.gl hg) (C.bn n (by subst hn; cases b <;> decide)) ha he hpl) fun g ρ m ls tmp fr σ H Q hR h => ⟨g, ρ, m, ls, tmp, fr, hR, Aft.bind0 h fun rs m1 vs g1 H1 l1 e1 le1 res1 R1 h1 => ?_⟩
  exact prim_end hp res1 R1 h1
end
end VS

/-! VSo: calls of defs, isinstance, methods. -/
namespace VS
open PySem PySem.Spec PyProof.Rows L2
section
variable {cl : Cl} {X : Cx} {W : WX} {N : List Str} {sc : Scope} {g : Gh} {ρ : Env} {m : Mem} {ls tmp fr : PL} {σ : L2.St} {H : Hp} {Q : VK} {a b c es : E} {x y z : Expr} {xs : List Expr} {pos : Pos}
theorem ResR.pv {r : R} {v : V} {l P P' : PL} (h : ResR g r v l P) (k : ∀ p ∈ P, p ∈ P') : ResR g r v l P' := by
  cases r with
  | v f => exact h
  | w f => obtain ⟨e, l', o, s⟩ := h; exact ⟨e, l', o, fun p hp => k p (s p hp)⟩
theorem Ress.pv : ∀ {rs : List R} {vs : List V} {l P P' : PL}, Ress g rs vs l P → (∀ p ∈ P, p ∈ P') → Ress g rs vs l P'
  | [], _, _, _, _, h, _ => h
  | r :: rs, _, _, _, _, h, k => by
    obtain ⟨v, t, l1, l2, e1, e2, q1, q2⟩ := h
    exact ⟨v, t, l1, l2, e1, e2, q1.pv k, Ress.pv q2 k⟩
theorem swap3 {α : Type} (a b c d : List α) : (a ++ (b ++ (c ++ d))).Perm (a ++ (c ++ (b ++ d))) := (List.perm_append_comm_assoc b c d).append_left a
/-- a call's promise from what holds behind the arguments -/
theorem call_in {f : Fn} {rs : List R} {vs : List V} {l : PL} (res : Ress g rs vs l (ls ++ fr)) (R1 : Rel cl g ρ m ls (l ++ tmp) fr σ H) (h : Aft cl W ResR g ρ ls tmp fr σ Q (f rs m)) : spF cl f vs H Q (WE W σ) := by
  obtain ⟨s, lc, c, G⟩ := R1
  refine ⟨g, rs, m, l, tmp ++ (ls ++ fr), res.pv fun p hp => List.mem_append_right _ hp, ⟨lc, c, ?_⟩, ?_⟩
  · rw [List.append_assoc] at G
    refine G.perm (List.Perm.append_left l ?_)
    exact (List.Perm.append_left tmp (List.perm_append_comm_assoc ls lc fr)).trans (List.perm_append_comm_assoc tmp lc _)
  · cases e : f rs m with
    | bad => rw [e] at h; exact h
    | exc k m1 =>
      rw [e] at h
      obtain ⟨C, hC, q⟩ := h
      refine ⟨C, hC, fun g' H' le ⟨lc', c', G'⟩ => q g' H' le ⟨s.mono le, lc', c', G'.perm ?_⟩⟩
      exact (List.perm_append_comm_assoc lc' tmp _).trans (List.Perm.append_left tmp (List.perm_append_comm_assoc lc' ls fr))
    | ok r m1 =>
      rw [e] at h
      refine fun v g' H' l' le rv ⟨lc', c', G'⟩ => h v g' H' l' le (rv.pv fun p hp => absurd hp List.not_mem_nil) ⟨s.mono le, lc', c', ?_⟩
      rw [List.append_assoc]
      refine G'.perm (List.Perm.append_left l' ?_)
      exact (List.perm_append_comm_assoc lc' tmp _).trans (List.Perm.append_left tmp (List.perm_append_comm_assoc lc' ls fr))
theorem ck_cons {e : Expr} (hk : ckA N es sc (e :: xs) = true) (env : PySem.Env) (p : Pos) : starEach (e :: xs) env = (false, eval e env) :: starEach xs env ∧ (backTo p (starEach xs env)).any (·.1) = false := by
  cases es <;> simp only [ckA, Bool.false_eq_true, Bool.and_eq_true] at hk
  exact ⟨star_of hk.1 env, back_any (star_all env hk.2)⟩
theorem sE_call (C : CtxOk X W N sc) {n : Str} {f : Fn} {p : Pos} {e : Expr} (k : CallOk cl X n f) (hg : glB sc n = true) (hn : okName n = true) (ha : PA X (e :: xs) (tA cl W es)) (hk : ckA N es sc (e :: xs) = true) :
    PE X (.Call (.Name n p) (e :: xs) [] pos) (tE cl W (.call n f es)) := by
  obtain ⟨k, fa, fd, ps, F, hr, hm, hkp, hb⟩ := k
  obtain ⟨he, hpl⟩ := ck_cons hk X.env pos
  refine PE.by (pe_callS (pos := pos) (p := p) (E := WE W) F hr (C.gl hg) hm hkp hb (fun σ => passAt C.tk σ) ha (CtxOk.dn hn).1 he hpl) fun g ρ m ls tmp fr σ H Q hR h => ⟨g, ρ, m, ls, tmp, fr, hR, Aft.bind0 h fun rs m1 vs g1 H1 l1 e1 le1 res1 R1 h1 => ?_⟩
  exact call_in res1 R1 h1
theorem sE_isi (C : CtxOk X W N sc) {n z : Str} {t : Ty} {p p2 : Pos} (ha : PE X y (tE cl W a)) (hn : n = ("isinstance" : Str)) (hg : glB sc n = true) (hz : z = Str.ofString t.name) (hgz : glB sc z = true) (hy : starEach [y, .Name z p2] X.env = (false, eval y X.env) :: starEach [.Name z p2] X.env) :
    PE X (.Call (.Name n p) [y, .Name z p2] [] pos) (tE cl W (.isi a t)) := by
  subst hn
  have b1 : bootBuiltins z = some (.type t.name) := by subst hz; cases t <;> decide +kernel
  have b2 : X.mg z = none := C.bn z (by subst hz; cases t <;> decide)
  have b3 : z ≠ "__name__" := by subst hz; cases t <;> decide
  have b4 : (z == ("__debug__" : Str)) = false := by subst hz; cases t <;> decide
  have hty : PE X (.Name z p2) (tC (.ty t.name)) := pe_bltn (C.gl hgz) b2 b1 rfl b3 b4
  have base := pe_callB (pos := pos) (p := p) (call_isG (X := X)) (C.gl hg) (C.bn _ (by decide)) (by decide +kernel : bootBuiltins "isinstance" = some (.builtin "isinstance")) (pa_cons ha (pa_cons hty pa_nil) hy) (by decide) (by decide) hy rfl
  refine PE.by base fun g ρ m ls tmp fr σ H Q hR h => ⟨g, ρ, m, ls, tmp, fr, hR, Aft.bind0 h fun q m1 v g1 H1 l1 e1 le1 res1 R1 h1 => ?_⟩
  obtain ⟨w, e, k⟩ := prim_end1 (W := W) (isi_prim t (K := X.K)) res1 R1 h1
  cases e
  exact k
/-! ### methods -/
def TyOk (X : Cx) (T : String) (ty : V → Hp → Prop) : Prop := ∀ (pins : List (Addr × Obj)) (σ : L2.St) (H : Hp) (s : Shared) (x : V) (v : Value), Inv X pins σ H s → RelV x v → ty x H → s.TypeIs v T ∧ ∀ a, v = .ref a → ∃ ob, s.heap.get? a = some ob ∧ ob.dict = none
theorem pe_bmX {o e : Expr} {es : List Expr} {to : TE} {t : TA} {name : Str} {apos cpos : Pos} {T id : String} {ty : V → Hp → Prop} {r : V → List V → Hp → VK → Prop} (pa : PlainAttrs T) (slot : Slot T name id) (hty : typeOf (.builtin id) = pure (.type "method_descriptor")) (hT : TyOk X T ty) (hm : MtR X id r) (ho : PE X o to) (ha : PA X (e :: es) t)
    (hbase : attributeBase o name X.env (eval o X.env) = eval o X.env)
    (hfew : ((backTo cpos (starEach (e :: es) X.env)).all (fun x => !x.1) && (backToKw cpos (keywordEach [] X.env)).all (fun x => x.1.isSome)
      && decide ((e :: es).length + ([] : List Keyword).length + (if ([] : List Keyword).isEmpty then 0 else 1) < 30)) = true)
    (hline : (apos.endLine == cpos.line) = true) (hs : starEach (e :: es) X.env = (false, eval e X.env) :: starEach es X.env) (hplain : (backTo cpos (starEach es X.env)).any (·.1) = false) :
    PE X (.Call (.Attribute o name apos) (e :: es) [] cpos) (fun σ H Q => to σ H fun x H1 => ty x H1 ∧ t σ H1 fun xs H2 => r x xs H2 Q) := by
  refine ⟨fun pins s σ H Q I h => ?_⟩
  refine wpAny_Call_method_late hbase hfew hline rfl (thn (ho.run pins s σ H _ I h) fun v s1 ⟨x, H1, I1, r1, ty, q1⟩ => ?_)
  obtain ⟨h1, h2⟩ := hT _ _ _ _ _ _ I1 r1 ty
  refine ⟨T, id, pa, slot, hty, h1, h2, ?_⟩
  have hA := ha.run cpos pins s1 σ H1 _ I1 q1
  rw [hs] at hA ⊢
  refine Calls.callWith_builtin (by show (false || (backTo cpos (starEach es X.env)).any (·.1)) = false; rw [hplain] <;> rfl) (Calls.evalArgs_plain ?_)
  exact thn hA fun us s2 ⟨vs, H2, I2, r2, q2⟩ => hm pins s2 σ H2 x vs v us Q I2 r1 r2 q2
def rM (r : V → List V → Hp → VK → Prop) : List V → Hp → VK → Prop := fun vs H Q => ∃ x xs, vs = x :: xs ∧ r x xs H Q
structure MtOk (X : Cx) (m : Mt) (T id : String) (ty : V → Hp → Prop) (r : V → List V → Hp → VK → Prop) : Prop where
  pa : PlainAttrs T
  slot : Slot T m.name id
  td : typeOf (.builtin id) = pure (.type "method_descriptor")
  tok : TyOk X T ty
  mt : MtR X id r
  is : ∀ (g : Gh) (a : R) (x : V) (l Pv P : PL) (H : Hp), ResR g a x l Pv → Good g.B P H → (∀ p ∈ l, p ∈ P) → (∀ p ∈ Pv, p ∈ P) → mtT m a = true → ty x H
  prim : PrimR ResR (mtS m) (rM r)
theorem tyStr : TyOk X "str" (fun x _ => ∃ z, x = .str z) := fun pins σ H s x v I r ⟨z, e⟩ => by
  subst e
  obtain ⟨t, rfl⟩ := r
  exact ⟨typeIs_str s z t, fun _ e => nomatch e⟩
theorem tyDict : TyOk X "dict" (fun x H => ∃ a, x = .ref a ∧ IsD H a) := fun pins σ H s x v I r ⟨a, e, d⟩ => by
  subst e
  cases r
  obtain ⟨h1, h2, _⟩ := isD_at I d
  exact ⟨h1, h2⟩
theorem mt_joinOk : MtOk X .join "str" "str.join" (fun x _ => ∃ z, x = .str z) (fun x xs H Q => ∃ a p, ∃ ys : List Str, x = .str a ∧ xs = [.ref p] ∧ (SqL X.K H p (ys.map V.str) ∨ SqT X.K H p (ys.map V.str)) ∧
    (ys.map (·.length)).sum + ys.length * a.length ≤ 16777216 ∧ Q (.str (Txt.join a ys)) H) where
  pa := F.plainAttrs_str
  slot := F.slot_str_join
  td := F.type_str_join
  tok := tyStr
  mt := mt_join
  is := fun g a x l Pv P H h G hl hv e => by
    unfold mtT at e
    dsimp only at e
    split at e
    · rename_i z ez; exact ⟨z, res_str h ez⟩
    · cases e
  prim := prim2b (prim2 fun g a b x y l1 l2 Pv Pr H Q res h1 h2 hv G e q => ⟨x, [y], rfl, by
    unfold joinS at e
    split at e
    · rename_i z ez
      simp only [Option.bind_eq_some_iff] at e
      obtain ⟨ys, ⟨ds, e1, e2⟩, e3⟩ := e
      split at e3 <;> cases e3
      rename_i hz
      obtain ⟨p, vs, rfl, hp, hr⟩ := res_seq h2 G mem_l2 hv e1
      have e4 := reps_strs e2 hr
      subst e4
      refine ⟨z, p, ys, res_str h1 ez, rfl, ?_, hz, end_p G (by simp only [Rep]) q⟩
      rcases hp with hp | hp
      · exact .inl (.inl hp)
      · exact .inr (SqT.of hp)
    · cases e⟩)
def rGet1 : V → List V → Hp → VK → Prop := fun x xs H Q => ∃ a y o, x = .ref a ∧ xs = [y] ∧ DG H a y o ∧ Q (o.getD .non) H
theorem mt_get1 (hu : X.A.units + 1 < cLine) : MtR X "dict.get" rGet1 := by
  intro pins s σ H x xs v us Q I rx rs ⟨a, y, o, e1, e2, dg, q⟩
  subst e1 e2
  cases rx
  obtain ⟨u, rfl, ru⟩ := rs.one
  obtain ⟨H', p⟩ := dg_of (A := X.A) (P := fun _ => wpAny (model X.prog X.w) X.A (call (.builtin "dict.get") [.ref a, u]) (EP X pins σ Q) X.xe s) dg I fun H' I' g' back => d_get1 hu I' g' ru fun w' s' I2 rw' => ⟨_, H, back s' I2, rw', q⟩
  exact p
def rGet2 : V → List V → Hp → VK → Prop := fun x xs H Q => ∃ a y z o, x = .ref a ∧ xs = [y, z] ∧ DG H a y o ∧ Q (o.getD z) H
theorem mt_get2 (hu : X.A.units + 1 < cLine) : MtR X "dict.get" rGet2 := by
  intro pins s σ H x xs v us Q I rx rs ⟨a, y, z, o, e1, e2, dg, q⟩
  subst e1 e2
  cases rx
  obtain ⟨u, w, rfl, ru, rw⟩ := rs.two
  obtain ⟨H', p⟩ := dg_of (A := X.A) (P := fun _ => wpAny (model X.prog X.w) X.A (call (.builtin "dict.get") [.ref a, u, w]) (EP X pins σ Q) X.xe s) dg I fun H' I' g' back => d_get2 hu I' g' ru rw fun w' s' I2 rw' => ⟨_, H, back s' I2, rw', q⟩
  exact p
theorem isK_ty {g : Gh} {a : R} {x : V} {l Pv P : PL} {H : Hp} (h : ResR g a x l Pv) (G : Good g.B P H) (hl : ∀ p ∈ l, p ∈ P) (hv : ∀ p ∈ Pv, p ∈ P) (e : a.f.isK.isSome = true) : ∃ p, x = .ref p ∧ IsD H p := by
  obtain ⟨kvs, ek⟩ := Option.isSome_iff_exists.mp e
  obtain ⟨p, rfl, ⟨es, hd, _⟩ | ⟨es, hd, _⟩⟩ := res_K h G hl hv ek
  · exact ⟨p, rfl, .inl ⟨es, hd.rd⟩⟩
  · exact ⟨p, rfl, .inr ⟨es, hd.rd⟩⟩
theorem mt_get1Ok (hu : X.A.units + 1 < cLine) : MtOk X .get1 "dict" "dict.get" (fun x H => ∃ a, x = .ref a ∧ IsD H a) rGet1 where
  pa := F.plainAttrs_dict
  slot := F.slot_dict_get
  td := F.type_dict_get
  tok := tyDict
  mt := mt_get1 hu
  is := fun g a x l Pv P H h G hl hv e => isK_ty h G hl hv e
  prim := prim2b (prim2 fun g a b x y l1 l2 Pv Pr H Q res h1 h2 hv G e q => ⟨x, [y], rfl, by
    simp only [get1S, Option.bind_eq_some_iff] at e
    obtain ⟨kvs, ek, k, ep, e⟩ := e
    split at e <;> cases e
    rename_i hk
    obtain ⟨p, rfl, f⟩ := res_K h1 G mem_l1 hv ek
    rcases dg_look G f hk (res_rep h2 (pd_f ep)) with ⟨e1, e2⟩ | ⟨d, w, e1, e2, r⟩
    · refine ⟨p, y, none, rfl, rfl, e2, ?_⟩
      rw [e1] at q
      exact end_p G (by simp [Rep]) q
    · refine ⟨p, y, some w, rfl, rfl, .inl e2, ?_⟩
      rw [e1] at q
      exact end_p G r q⟩)
theorem mt_get2Ok (hu : X.A.units + 1 < cLine) : MtOk X .get2 "dict" "dict.get" (fun x H => ∃ a, x = .ref a ∧ IsD H a) rGet2 where
  pa := F.plainAttrs_dict
  slot := F.slot_dict_get
  td := F.type_dict_get
  tok := tyDict
  mt := mt_get2 hu
  is := fun g a x l Pv P H h G hl hv e => isK_ty h G hl hv e
  prim := prim3 fun g a b c x y z l1 l2 l3 Pv Pr H Q res h1 h2 h3 hv G e q => ⟨x, [y, z], rfl, by
    simp only [get2S, Option.bind_eq_some_iff] at e
    obtain ⟨kvs, ek, k, ep, d0, ed, e⟩ := e
    split at e <;> cases e
    rename_i hk
    obtain ⟨p, rfl, f⟩ := res_K h1 G (fun p hp => List.mem_append_right _ (mem_l1 p hp)) hv ek
    rcases dg_look G f hk (res_rep h2 (pd_f ep)) with ⟨e1, e2⟩ | ⟨d, w, e1, e2, r⟩
    · refine ⟨p, y, z, none, rfl, rfl, e2, ?_⟩
      rw [e1] at q
      exact end_p (l2 := l2) (l1 := l1) G.tail (res_rep h3 (pd_f ed)) q
    · refine ⟨p, y, z, some w, rfl, rfl, .inl e2, ?_⟩
      rw [e1] at q
      exact end_p (l2 := l2) (l1 := l1) G.tail r q⟩
theorem mt_ok (hu : X.A.units + 1 < cLine) (k : Mt) : ∃ T id ty r, MtOk X k T id ty r := by
  cases k
  · exact ⟨_, _, _, _, mt_joinOk⟩
  · exact ⟨_, _, _, _, mt_get1Ok hu⟩
  · exact ⟨_, _, _, _, mt_get2Ok hu⟩
theorem base_of {o : Expr} {nm : Str} {env : PySem.Env} (h : noCall0 o = true) : attributeBase o nm env (eval o env) = eval o env := by
  unfold attributeBase
  split
  · simp [noCall0] at h
  · rfl
theorem sE_mth (C : CtxOk X W N sc) {k : Mt} {nm : Str} {o e : Expr} {apos : Pos} (ho : PE X o (tE cl W a)) (hn : nm = k.name) (hc0 : noCall0 o = true) (ha : PA X (e :: xs) (tA cl W es)) (hk : ckA N es sc (e :: xs) = true) (hl : (apos.endLine == pos.line) = true) (hlen : xs.length < 20) :
    PE X (.Call (.Attribute o nm apos) (e :: xs) [] pos) (tE cl W (.mth k a es)) := by
  subst hn
  obtain ⟨T, id, ty, r, M⟩ := mt_ok (X := X) (by have := C.un; omega) k
  obtain ⟨he, hpl⟩ := ck_cons hk X.env pos
  have base := pe_bmX (cpos := pos) (apos := apos) M.pa M.slot M.td M.tok M.mt ho ha (base_of hc0) (back_few (star_all X.env hk) (by rw [List.length_cons]; omega)) hl he hpl
  refine PE.by base fun g ρ m ls tmp fr σ H Q hR h => ⟨g, ρ, m, ls, tmp, fr, hR, Aft.bind0 h fun q m1 v g1 H1 l1 e1 le1 res1 R1 h1 => ?_⟩
  split at h1
  · rename_i hT
    refine ⟨?_, g1, ρ, m1, ls, l1 ++ tmp, fr, R1, Aft.bind h1 fun rs m2 vs g2 H2 l2 _ le2 res2 R2 h2 => ?_⟩
    · obtain ⟨s, lc, cc, G⟩ := R1
      refine M.is g1 q v l1 (ls ++ fr) _ H1 res1 G (fun p hp => ?_) (fun p hp => ?_) hT
      · simp only [List.mem_append]; exact .inl (.inl hp)
      · simp only [List.mem_append] at hp ⊢
        rcases hp with hp | hp
        · exact .inr (.inl hp)
        · exact .inr (.inr (.inr hp))
    · rw [← List.append_assoc] at R2
      obtain ⟨w, ws, e, k2⟩ := prim_end (W := W) M.prim (ress_cons (res1.mono le2) res2) R2 h2
      cases e
      exact k2
  · exact h1.elim
theorem sE_frz (h : PE X x (tE cl W a)) : PE X x (tE cl W (.frz a)) := by
  refine PE.by h fun g ρ m ls tmp fr σ H Q hR h => ⟨g, ρ, m, ls, tmp, fr, hR, Aft.bind0 h fun q m1 v g1 H1 l1 e1 le1 res1 R1 h1 => ?_⟩
  cases q with
  | w f => exact h1.elim
  | v f =>
    obtain ⟨s, lc, c, G⟩ := R1
    rw [List.append_assoc] at G
    obtain ⟨g2, le2, as2, r2, G2⟩ := Own.cool f g1 v l1 _ H1 res1 G
    exact h1 v g2 H1 [] le2 (res_p r2) ⟨s.mono le2, lc, as2 ▸ c.mono le2, G2⟩
end
end VS

/-! VSp: slots written, targets, what is walked. -/
namespace VS
open PySem PySem.Spec PyProof.Rows L2
/-! ### slots -/
theorem Slots.length {g : Gh} {fr : PL} : ∀ {ρ : Env} {σ : L2.St} {ls : PL}, Slots g fr ρ σ ls → σ.length = ρ.length
  | [], _, _, h => by rw [h.1]; rfl
  | r :: ρ, _, _, h => by
    obtain ⟨o, t, l1, l2, rfl, _, _, q⟩ := h
    simp [Slots.length q]
theorem Slots.set {g : Gh} {fr : PL} : ∀ {ρ : Env} {σ : L2.St} {ls : PL} {i : Nat}, Slots g fr ρ σ ls → i < ρ.length →
    ∃ l1 l0 l2 q0 o0, ls = l1 ++ (l0 ++ l2) ∧ ρ[i]? = some q0 ∧ σ[i]? = some o0 ∧ SlotR g fr q0 o0 l0 ∧ ∀ g' q o l, g.le g' → SlotR g' fr q o l → Slots g' fr (ρ.set i q) (σ.set i o) (l1 ++ (l ++ l2))
  | [], _, _, _, _, hi => absurd hi (Nat.not_lt_zero _)
  | r :: ρ, _, _, 0, h, _ => by
    obtain ⟨o, t, l1, l2, rfl, rfl, q1, q2⟩ := h
    exact ⟨[], l1, l2, r, o, rfl, rfl, rfl, q1, fun g' q o' l le s => ⟨o', t, l, l2, rfl, rfl, s, q2.mono le⟩⟩
  | r :: ρ, _, _, i + 1, h, hi => by
    obtain ⟨o, t, l1, l2, rfl, rfl, q1, q2⟩ := h
    obtain ⟨k1, k0, k2, q0, o0, rfl, e1, e2, s0, f⟩ := Slots.set (i := i) q2 (Nat.lt_of_succ_lt_succ hi)
    refine ⟨l1 ++ k1, k0, k2, q0, o0, by rw [List.append_assoc], by simpa using e1, by simpa using e2, s0, fun g' q o' l le s => ?_⟩
    refine ⟨o, t.set i o', l1, k1 ++ (l ++ k2), by simp, by rw [List.append_assoc], q1.mono le, f g' q o' l le s⟩
theorem Slots.wipe {g : Gh} {fr : PL} {ρ : Env} {σ : L2.St} {ls : PL} (h : Slots g fr ρ σ ls) : ∀ vs : List Nat, ∃ ls1 ls2, ls.Perm (ls1 ++ ls2) ∧ Slots g fr (wipeR ρ vs) (L2.wipe σ vs) ls1
  | [] => ⟨ls, [], by simp, h⟩
  | v :: vs => by
    obtain ⟨ls1, ls2, p, q⟩ := Slots.wipe h vs
    unfold wipeR L2.wipe
    by_cases hv : v < (wipeR ρ vs).length
    · obtain ⟨l1, l0, l2, q0, o0, rfl, _, _, _, f⟩ := q.set hv
      refine ⟨l1 ++ l2, l0 ++ ls2, p.trans ?_, f g none none [] (.refl g) rfl⟩
      rw [← List.append_assoc, ← List.append_assoc]
      refine List.Perm.append_right ls2 ?_
      rw [List.append_assoc, List.append_assoc]
      exact List.Perm.append_left l1 List.perm_append_comm
    · have hl := q.length
      rw [List.set_eq_of_length_le (by omega), List.set_eq_of_length_le (by omega)]
      exact ⟨ls1, ls2, p, q⟩
theorem wipe_out {σ : L2.St} {i : Nat} : ∀ {vs : List Nat}, i ∉ vs → (L2.wipe σ vs)[i]? = σ[i]?
  | [], _ => rfl
  | v :: vs, h => by
    simp only [List.mem_cons, not_or] at h
    unfold L2.wipe
    rw [List.getElem?_set_ne (fun e => h.1 e.symm)]
    exact wipe_out h.2
theorem wipe_in {σ : L2.St} {i : Nat} : ∀ {vs : List Nat}, i ∈ vs → i < σ.length → (L2.wipe σ vs)[i]? = some none
  | v :: vs, h, hl => by
    unfold L2.wipe
    by_cases e : v = i
    · subst e
      rw [List.getElem?_set_self (by rw [wipe_length]; exact hl)]
    · rw [List.getElem?_set_ne e]
      rcases List.mem_cons.mp h with h | h
      · exact absurd h.symm e
      · exact wipe_in h hl
theorem wipe_eq {σ σ' : L2.St} {vs : List Nat} (hl : σ.length = σ'.length) (h : ∀ i, i ∉ vs → σ[i]? = σ'[i]?) : L2.wipe σ vs = L2.wipe σ' vs := by
  refine List.ext_getElem? fun i => ?_
  by_cases hi : i ∈ vs
  · by_cases hlt : i < σ.length
    · rw [wipe_in hi hlt, wipe_in hi (by omega)]
    · rw [List.getElem?_eq_none (by rw [wipe_length]; omega), List.getElem?_eq_none (by rw [wipe_length]; omega)]
  · rw [wipe_out hi, wipe_out hi, h i hi]
/-! ### targets -/
def gNs : List Nat → TGs
  | [] => gNil
  | i :: is => gCons (gName i) (gNs is)
def gTgt (K : PySem.W.Frag) : Tg → TG
  | .nm i => gName i
  | .tp is => gTup K is.length (gNs is)
section
variable {cl : Cl} {X : Cx} {W : WX} {N : List Str} {sc : Scope} {g : Gh} {fr : PL}
theorem ckN_name {i : Nat} {e : Expr} (h : ckN N sc i e = true) : ∃ x p, e = .Name x p ∧ N[i]? = some x ∧ locB sc x = true := by
  unfold ckN at h
  split at h
  · simp only [Bool.and_eq_true, decide_eq_true_eq] at h
    exact ⟨_, _, rfl, h.1, h.2⟩
  · cases h
theorem assignEach_names : ∀ {is : List Nat} {es : List Expr} (env : PySem.Env), ckNs N sc is es = true → assignEach es env = es.map fun e => (false, assign e env)
  | [], [], _, _ => rfl
  | [], _ :: _, _, h => by simp [ckNs] at h
  | _ :: _, [], _, h => by simp [ckNs] at h
  | i :: is, e :: es, env, h => by
    simp only [ckNs, Bool.and_eq_true] at h
    obtain ⟨x, p, rfl, _, _⟩ := ckN_name h.1
    show _ :: assignEach es env = _
    rw [assignEach_names env h.2]
    rfl
theorem ckNs_len : ∀ {is : List Nat} {es : List Expr}, ckNs N sc is es = true → es.length = is.length
  | [], [], _ => rfl
  | [], _ :: _, h => by simp [ckNs] at h
  | _ :: _, [], h => by simp [ckNs] at h
  | i :: is, e :: es, h => by
    simp only [ckNs, Bool.and_eq_true] at h
    simp [ckNs_len h.2]
theorem locB_loc {x : Str} (h : locB sc x = true) : L2.Loc sc x := by
  unfold locB at h
  unfold L2.Loc
  split at h
  · exact .inl (by assumption)
  · exact .inr (by assumption)
  · exact absurd h Bool.false_ne_true
def FnIs (X : Cx) (sc : Scope) : Prop := ∀ x, locB sc x = true → L2.Loc X.env.scope x ∧ (X.fn x = true ∨ X.env.scope.names.lookup x = some .local)
theorem pgs_names (hN : X.N = N) (nd : N.Nodup) (hf : FnIs X sc) : ∀ {is : List Nat} {es : List Expr}, ckNs N sc is es = true → PGs X es (gNs is)
  | [], [], _ => pgs_nil
  | [], _ :: _, h => by simp [ckNs] at h
  | _ :: _, [], h => by simp [ckNs] at h
  | i :: is, e :: es, h => by
    simp only [ckNs, Bool.and_eq_true] at h
    obtain ⟨x, p, rfl, hx, hl⟩ := ckN_name h.1
    exact pgs_cons (pg_name (by rw [hN]; exact nd) (by rw [hN]; exact hx) (hf x hl).1 (hf x hl).2) (pgs_names hN nd hf h.2)
theorem pg_tgt (hN : X.N = N) (nd : N.Nodup) (hc : X.calm = true) (hf : FnIs X sc) {t : Tg} {e : Expr} (h : ckTg N sc t e = true) : PG X e (gTgt X.K t) := by
  cases t with
  | nm i =>
    obtain ⟨x, p, rfl, hx, hl⟩ := ckN_name (show ckN N sc i e = true from h)
    exact pg_name (by rw [hN]; exact nd) (by rw [hN]; exact hx) (hf x hl).1 (hf x hl).2
  | tp is =>
    cases e <;> simp only [ckTg, Bool.false_eq_true] at h
    rename_i es k pos
    have e1 := assignEach_names X.env h
    exact pg_tup hc (pgs_names hN nd hf h) (by rw [e1, List.length_map, ckNs_len h]) (by rw [e1]; simp)
/-- targets set -/
theorem sl_ok : ∀ {is : List Nat} {ds : List D} {ρ ρ1 : Env} {vs : List V} {σ : L2.St} {ls : PL} {H : Hp}, setSl is ds ρ = some ρ1 → Reps g ds vs → Slots g fr ρ σ ls →
    ∃ σ1 ls1 l0, (∀ Q : L2.St → Hp → Prop, Q σ1 H → gNs is vs σ H Q) ∧ Slots g fr ρ1 σ1 ls1 ∧ ls.Perm (l0 ++ ls1) ∧ σ1.length = σ.length ∧ ∀ j, j ∉ is → σ1[j]? = σ[j]?
  | [], [], ρ, ρ1, vs, σ, ls, H, e, r, s => by
    simp only [setSl, Option.some.injEq] at e
    subst e
    simp only [Reps] at r
    exact ⟨σ, ls, [], fun Q q => ⟨r, q⟩, s, by simp, rfl, fun _ _ => rfl⟩
  | [], _ :: _, _, _, _, _, _, _, e, _, _ => by simp [setSl] at e
  | _ :: _, [], _, _, _, _, _, _, e, _, _ => by simp [setSl] at e
  | i :: is, d :: ds, ρ, ρ1, vs, σ, ls, H, e, r, s => by
    simp only [setSl, setE, Option.bind_eq_some_iff] at e
    obtain ⟨ρ2, e1, e2⟩ := e
    split at e1 <;> cases e1
    rename_i hi
    simp only [Reps] at r
    obtain ⟨v, t, rfl, r1, r2⟩ := r
    obtain ⟨l1, l0, l2, q0, o0, rfl, _, _, _, f⟩ := s.set hi
    obtain ⟨σ1, ls1, k0, h1, h2, h3, h4, h5⟩ := sl_ok (H := H) e2 r2 (f g (some (.p d)) (some v) [] (.refl g) ⟨v, rfl, res_p r1⟩)
    refine ⟨σ1, ls1, l0 ++ k0, fun Q q => ⟨v, t, rfl, h1 Q q⟩, h2, ?_, by rw [h4, List.length_set], fun j hj => ?_⟩
    · rw [List.append_assoc]
      exact (List.perm_append_comm_assoc l1 l0 l2).trans (List.Perm.append_left l0 h3)
    · simp only [List.mem_cons, not_or] at hj
      rw [h5 j hj.2, List.getElem?_set_ne (fun e => hj.1 e.symm)]
theorem tgt_ok {K : PySem.W.Frag} {t : Tg} {d : D} {ρ ρ1 : Env} {v : V} {σ : L2.St} {ls P : PL} {H : Hp} (e : setTg t d ρ = some ρ1) (r : Rep g d v) (s : Slots g fr ρ σ ls) (G : Good g.B P H) :
    ∃ σ1 ls1 l0, (∀ Q : L2.St → Hp → Prop, Q σ1 H → gTgt K t v σ H Q) ∧ Slots g fr ρ1 σ1 ls1 ∧ ls.Perm (l0 ++ ls1) ∧ σ1.length = σ.length ∧ ∀ j, j ∉ tgSlots t → σ1[j]? = σ[j]? := by
  cases t with
  | nm i =>
    have e1 : setSl [i] [d] ρ = some ρ1 := by
      simp only [setSl, Option.bind_eq_some_iff]
      exact ⟨ρ1, e, rfl⟩
    obtain ⟨σ1, ls1, l0, h1, h2, h3, h4, h5⟩ := sl_ok (H := H) e1 (show Reps g [d] [v] by simp only [Reps]; exact ⟨v, [], rfl, r, rfl⟩) s
    refine ⟨σ1, ls1, l0, fun Q q => ?_, h2, h3, h4, h5⟩
    obtain ⟨v', t', e, h⟩ := h1 Q q
    cases e
    exact h.2
  | tp is =>
    cases d <;> simp only [setTg, reduceCtorEq] at e
    rename_i ds
    simp only [Rep] at r
    obtain ⟨a, xs, rfl, hb, r⟩ := r
    obtain ⟨σ1, ls1, l0, h1, h2, h3, h4, h5⟩ := sl_ok (H := H) e r s
    have len : ∀ {is : List Nat} {ds : List D} {ρ ρ1 : Env}, setSl is ds ρ = some ρ1 → ds.length = is.length := by
      intro is
      induction is with
      | nil => intro ds ρ ρ1 e; cases ds <;> simp [setSl] at e ⊢
      | cons i is ih =>
        intro ds ρ ρ1 e
        cases ds with
        | nil => simp [setSl] at e
        | cons d ds =>
          simp only [setSl, Option.bind_eq_some_iff] at e
          obtain ⟨_, _, e⟩ := e
          simp [ih e]
    exact ⟨σ1, ls1, l0, fun Q q => ⟨a, xs, rfl, .inl (.inl (tup_at G hb)), by rw [Reps.length r, len e], h1 Q q⟩, h2, h3, h4, h5⟩
end
/-! ### what is walked -/
def ItOk (g0 : Gh) (J : It) (ds : List D) (L : PL) : Prop := ∀ g P H i, g0.le g → Good g.B P H → (∀ p ∈ L, p ∈ P) →
  (∀ d, ds[i]? = some d → J.go i H ∧ ∀ x H', J.yld i H x H' → ∃ g', g.le g' ∧ g.as = g'.as ∧ Good g'.B P H' ∧ Rep g' d x) ∧ (ds.length ≤ i → J.stop i H)
def SeesL (g : Gh) (a : Addr) (xs : List V) (L : PL) : Prop := ∀ g' P H, g.le g' → Good g'.B P H → (∀ p ∈ L, p ∈ P) → Rd H a (.lst xs)
section
variable {g : Gh} {K : PySem.W.Frag} {a b : Addr} {xs ys : List V} {ds es : List D} {L : PL}
theorem it_list (h : SeesL g a xs L) (r : Reps g ds xs) : ItOk g (Itl K a) ds L := fun g' P H i le G hL => by
  have hq : SqL K H a xs := .inl (h g' P H le G hL)
  refine ⟨fun d e => ?_, fun e => ⟨xs, hq, by rw [Reps.length r]; exact e⟩⟩
  obtain ⟨x, e1, r1⟩ := reps_get i r e
  refine ⟨⟨xs, x, hq, e1⟩, fun y H' ⟨e2, k⟩ => ?_⟩
  subst e2
  have e3 := k xs hq
  rw [e1] at e3
  cases e3
  exact ⟨g', .refl g', rfl, G, Rep.mono le _ _ r1⟩
theorem it_tup (h : g.B a = some (.tup xs)) (r : Reps g ds xs) : ItOk g (Itt K a) ds [] := fun g' P H i le G hL => by
  have hq : SqT K H a xs := .inl (.inl (tup_at G (le.b _ _ h)))
  refine ⟨fun d e => ?_, fun e => ⟨xs, hq, by rw [Reps.length r]; exact e⟩⟩
  obtain ⟨x, e1, r1⟩ := reps_get i r e
  refine ⟨⟨xs, x, hq, e1⟩, fun y H' ⟨e2, k⟩ => ?_⟩
  subst e2
  have e3 := k xs hq
  rw [e1] at e3
  cases e3
  exact ⟨g', .refl g', rfl, G, Rep.mono le _ _ r1⟩
theorem it_str {z : Str} : ItOk g (Its z) (signs z) [] := fun g' P H i le G hL => by
  refine ⟨fun d e => ?_, fun e => ?_⟩
  · unfold signs at e
    rw [List.getElem?_map, Option.map_eq_some_iff] at e
    obtain ⟨c, e1, rfl⟩ := e
    have hi : i < z.cps.size := by
      have := (List.getElem?_eq_some_iff.mp e1).1
      simpa using this
    refine ⟨hi, fun y H' ⟨e2, c', e3, e4⟩ => ?_⟩
    subst e2 e4
    have : c' = c := by
      rw [← Array.getElem?_toList, e1] at e3
      exact (Option.some.inj e3).symm
    subst this
    exact ⟨g', .refl g', rfl, G, by simp only [Rep]⟩
  · show z.cps.size ≤ i
    simpa [signs] using e
theorem rangeD_len : ∀ (n : Nat) (i : Int), (rangeD i n).length = n
  | 0, _ => rfl
  | n + 1, i => by simp [rangeD, rangeD_len n]
theorem rangeD_get : ∀ (n : Nat) (lo : Int) (i : Nat) {d : D}, (rangeD lo n)[i]? = some d → d = .int (lo + i)
  | 0, _, _, _, e => by simp [rangeD] at e
  | n + 1, lo, 0, d, e => by simp [rangeD] at e; rw [← e]; simp
  | n + 1, lo, i + 1, d, e => by
    simp only [rangeD, List.getElem?_cons_succ] at e
    rw [rangeD_get n _ i e]
    congr 1
    omega
theorem it_range {lo : Int} {n : Nat} : ItOk g (Itr lo n) (rangeD lo n) [] := fun g' P H i le G hL => by
  refine ⟨fun d e => ?_, fun e => by rw [rangeD_len] at e; exact e⟩
  have hi : i < n := by
    have := (List.getElem?_eq_some_iff.mp e).1
    rw [rangeD_len] at this
    exact this
  refine ⟨hi, fun y H' ⟨e2, e3⟩ => ?_⟩
  subst e2 e3
  rw [rangeD_get n lo i e]
  exact ⟨g', .refl g', rfl, G, by simp only [Rep]⟩
theorem enumD_len : ∀ (ds : List D) (i : Int), (enumD i ds).length = ds.length
  | [], _ => rfl
  | d :: ds, i => by simp [enumD, enumD_len ds]
theorem enumD_get : ∀ (ds : List D) (lo : Int) (i : Nat) {d : D}, (enumD lo ds)[i]? = some d → ∃ x, ds[i]? = some x ∧ d = .tup [.int (lo + i), x]
  | [], _, _, _, e => by simp [enumD] at e
  | y :: ds, lo, 0, d, e => by simp [enumD] at e; exact ⟨y, rfl, by rw [← e]; simp⟩
  | y :: ds, lo, i + 1, d, e => by
    simp only [enumD, List.getElem?_cons_succ] at e
    obtain ⟨x, e1, e2⟩ := enumD_get ds _ i e
    refine ⟨x, by simpa using e1, ?_⟩
    rw [e2]
    have : lo + 1 + (i : Int) = lo + ((i + 1 : Nat) : Int) := by omega
    rw [this]
theorem it_enum (h : SeesL g a xs L) (r : Reps g ds xs) : ItOk g (Ite K a) (enumD 0 ds) L := fun g' P H i le G hL => by
  have hq : SqL K H a xs := .inl (h g' P H le G hL)
  refine ⟨fun d e => ?_, fun e => ⟨xs, hq, by rw [Reps.length r]; rw [enumD_len] at e; exact e⟩⟩
  obtain ⟨y, e0, rfl⟩ := enumD_get ds 0 i e
  obtain ⟨x, e1, r1⟩ := reps_get i r e0
  refine ⟨⟨xs, x, hq, e1⟩, fun v H' ⟨T, z, e2, hT, e3, k⟩ => ?_⟩
  subst e2 e3
  have e4 := k xs hq
  rw [e1] at e4
  cases e4
  obtain ⟨G2, kk⟩ := G.ice (o := .tup [.int (i : Nat), x]) hT
  refine ⟨g'.put T (.tup [.int (i : Nat), x]), .put kk, rfl, G2, ?_⟩
  simp only [Rep, Reps]
  refine ⟨T, _, rfl, Gh.put_at, .int (i : Nat), [x], rfl, by simp, x, [], rfl, Rep.mono (le.trans (.put kk)) _ _ r1, rfl⟩
theorem zipD_len : ∀ (as bs : List D), (zipD as bs).length = min as.length bs.length
  | [], _ => by simp [zipD]
  | _ :: _, [] => by simp [zipD]
  | a :: as, b :: bs => by simp [zipD, zipD_len as bs]
theorem zipD_get : ∀ (as bs : List D) (i : Nat) {d : D}, (zipD as bs)[i]? = some d → ∃ x y, as[i]? = some x ∧ bs[i]? = some y ∧ d = .tup [x, y]
  | [], _, _, _, e => by simp [zipD] at e
  | _ :: _, [], _, _, e => by simp [zipD] at e
  | a :: as, b :: bs, 0, d, e => by simp [zipD] at e; exact ⟨a, b, rfl, rfl, e.symm⟩
  | a :: as, b :: bs, i + 1, d, e => by
    simp only [zipD, List.getElem?_cons_succ] at e
    obtain ⟨x, y, e1, e2, e3⟩ := zipD_get as bs i e
    exact ⟨x, y, by simpa using e1, by simpa using e2, e3⟩
theorem it_zip (h : SeesL g a xs L) (r : Reps g ds xs) (h2 : SeesL g b ys L) (r2 : Reps g es ys) : ItOk g (Itz K a b) (zipD ds es) L := fun g' P H i le G hL => by
  have hq : SqL K H a xs := .inl (h g' P H le G hL)
  have hq2 : SqL K H b ys := .inl (h2 g' P H le G hL)
  refine ⟨fun d e => ?_, fun e => ⟨xs, ys, hq, hq2, by rw [Reps.length r, Reps.length r2]; rw [zipD_len] at e; omega⟩⟩
  obtain ⟨y, w, e0, e0', rfl⟩ := zipD_get ds es i e
  obtain ⟨x, e1, r1⟩ := reps_get i r e0
  obtain ⟨x2, e1', r1'⟩ := reps_get i r2 e0'
  refine ⟨⟨xs, ys, x, x2, hq, hq2, e1, e1'⟩, fun v H' ⟨T, z, z2, e2, hT, e3, k, k2⟩ => ?_⟩
  subst e2 e3
  have e4 := k xs hq
  rw [e1] at e4
  cases e4
  have e5 := k2 ys hq2
  rw [e1'] at e5
  cases e5
  obtain ⟨G2, kk⟩ := G.ice (o := .tup [x, x2]) hT
  refine ⟨g'.put T (.tup [x, x2]), .put kk, rfl, G2, ?_⟩
  simp only [Rep, Reps]
  exact ⟨T, _, rfl, Gh.put_at, x, [x2], rfl, Rep.mono (le.trans (.put kk)) _ _ r1, x2, [], rfl, Rep.mono (le.trans (.put kk)) _ _ r1', rfl⟩
theorem it_zipT (h : g.B a = some (.tup xs)) (r : Reps g ds xs) (h2 : g.B b = some (.tup ys)) (r2 : Reps g es ys) : ItOk g (RZ.ItzT K a b) (zipD ds es) [] := fun g' P H i le G hL => by
  have hq : SqT K H a xs := .inl (.inl (tup_at G (le.b _ _ h)))
  have hq2 : SqT K H b ys := .inl (.inl (tup_at G (le.b _ _ h2)))
  refine ⟨fun d e => ?_, fun e => ⟨xs, ys, hq, hq2, by rw [Reps.length r, Reps.length r2]; rw [zipD_len] at e; omega⟩⟩
  obtain ⟨y, w, e0, e0', rfl⟩ := zipD_get ds es i e
  obtain ⟨x, e1, r1⟩ := reps_get i r e0
  obtain ⟨x2, e1', r1'⟩ := reps_get i r2 e0'
  refine ⟨⟨xs, ys, x, x2, hq, hq2, e1, e1'⟩, fun v H' ⟨T, z, z2, e2, hT, e3, k, k2⟩ => ?_⟩
  subst e2 e3
  have e4 := k xs hq
  rw [e1] at e4
  cases e4
  have e5 := k2 ys hq2
  rw [e1'] at e5
  cases e5
  obtain ⟨G2, kk⟩ := G.ice (o := .tup [x, x2]) hT
  refine ⟨g'.put T (.tup [x, x2]), .put kk, rfl, G2, ?_⟩
  simp only [Rep, Reps]
  exact ⟨T, _, rfl, Gh.put_at, x, [x2], rfl, Rep.mono (le.trans (.put kk)) _ _ r1, x2, [], rfl, Rep.mono (le.trans (.put kk)) _ _ r1', rfl⟩
end
end VS

/-! VSq: sources. -/
namespace VS
open PySem PySem.Spec PyProof.Rows L2
section
variable {cl : Cl} {X : Cx} {W : WX} {N : List Str} {sc : Scope} {g : Gh} {ρ : Env} {m : Mem} {ls tmp fr : PL} {σ : L2.St} {H : Hp} {Q : VK} {a b c es : E} {x y z tg iter : Expr} {xs : List Expr} {pos : Pos}
def RlJ (b : Bool) (g : Gh) (ds : List D) (J : It) (l Pv : PL) : Prop := ∃ L, ItOk g J ds L ∧ ∀ p ∈ L, p ∈ l ∨ (b = false ∧ p ∈ Pv)
def tI (cl : Cl) (W : WX) (b : Bool) (k : Src) (es : E) : TI := fun σ H R => ∃ g ρ m ls tmp fr, Rel cl g ρ m ls tmp fr σ H ∧ Aft cl W (RlJ b) g ρ ls tmp fr σ R (srcO b k (evs es ρ m))
theorem PI.by {b : Bool} {k : Src} {wi : TI} (base : PI X tg iter wi) (h : ∀ g ρ m ls tmp fr σ H R, Rel cl g ρ m ls tmp fr σ H → Aft cl W (RlJ b) g ρ ls tmp fr σ R (srcO b k (evs es ρ m)) → wi σ H R) : PI X tg iter (tI cl W b k es) :=
  ⟨fun pins s σ H R I ⟨g, ρ, m, ls, tmp, fr, hR, ha⟩ => base.run pins s σ H R I (h g ρ m ls tmp fr σ H R hR ha)⟩
/-- a list or a tuple, as it stands at any later heap -/
theorem res_listU {r : R} {v : V} {l Pv : PL} {ds : List D} {b : Bool} (h : ResR g r v l Pv) (hb : b = true → ∃ f, r = .v f) (e : r.f.isL = some ds) : ∃ a xs L, v = .ref a ∧ Reps g ds xs ∧ SeesL g a xs L ∧ ∀ p ∈ L, p ∈ l ∨ (b = false ∧ p ∈ Pv) := by
  have own : ∀ {f : F} {l' : PL}, f.isL = some ds → Own g f v l' → ∃ a xs L, v = .ref a ∧ Reps g ds xs ∧ SeesL g a xs L ∧ ∀ p ∈ L, p ∈ l' := by
    intro f l' e o
    cases f with
    | d x =>
      cases x <;> simp only [F.isL, Option.some.injEq, reduceCtorEq] at e
      subst e
      obtain ⟨_, q⟩ := own_d.mp o
      simp only [Rep] at q
      obtain ⟨a, xs, e, hb, q⟩ := q
      exact ⟨a, xs, [], e, q, fun g' P H le G _ => rd_lst G (Rd.mono le.b hb), by simp⟩
    | lst fs =>
      simp only [F.isL] at e
      simp only [Own] at o
      obtain ⟨a, xs, ls, rfl, rfl, o⟩ := o
      exact ⟨a, xs, [(a, .lst xs)], rfl, (pures_owns e o).1, fun g' P H le G hL => .inl (G.at_ _ (hL _ List.mem_cons_self)).1, by simp⟩
    | tup fs => simp [F.isL] at e
    | dct fs => simp [F.isL] at e
  cases r with
  | v f =>
    obtain ⟨a, xs, L, e1, e2, e3, e4⟩ := own (show f.isL = some ds from e) h
    exact ⟨a, xs, L, e1, e2, e3, fun p hp => .inl (e4 p hp)⟩
  | w f =>
    obtain ⟨_, l', o, hs⟩ := h
    obtain ⟨a, xs, L, e1, e2, e3, e4⟩ := own (show f.isL = some ds from e) o
    refine ⟨a, xs, L, e1, e2, e3, fun p hp => .inr ⟨?_, hs p (e4 p hp)⟩⟩
    cases b with
    | false => rfl
    | true => obtain ⟨f', z⟩ := hb rfl; cases z
theorem res_tupU {r : R} {v : V} {l Pv : PL} {ds : List D} (h : ResR g r v l Pv) (e : r.f = .d (.tup ds)) : ∃ a xs, v = .ref a ∧ Reps g ds xs ∧ g.B a = some (.tup xs) := by
  have q := res_rep h e
  simp only [Rep] at q
  obtain ⟨a, xs, e, hb, q⟩ := q
  exact ⟨a, xs, e, q, hb⟩
theorem SeesL.mono {g g' : Gh} {a : Addr} {xs : List V} {L L' : PL} (h : SeesL g a xs L) (le : g.le g') (hL : ∀ p ∈ L, p ∈ L') : SeesL g' a xs L' := fun g2 P H le2 G k => h g2 P H (le.trans le2) G fun p hp => k p (hL p hp)
/-! the built-in iterators over any sequence -/
def iAny (K : PySem.W.Frag) (te : TE) : TI := fun σ H R => te σ H fun x H1 => (∃ a xs, x = .ref a ∧ SqL K H1 a xs ∧ R (Itl K a) H1) ∨ (∃ a xs, x = .ref a ∧ SqT K H1 a xs ∧ R (Itt K a) H1) ∨ ∃ z, x = .str z ∧ R (Its z) H1
theorem pi_any {te : TE} (he : PE X x te) : PI X tg x (iAny X.K te) := by
  refine ⟨fun pins s σ H R I h => ?_⟩
  refine thn (he.run pins s σ H _ I h) fun v s1 ⟨y, H1, I1, r1, q⟩ => ?_
  have fp : ∀ {b : Addr}, b ∈ [s1.heap.objs.size] → FpOk X pins H1 b := fun {b} hb => by
    have e : b = s1.heap.objs.size := by simpa using hb
    subst e
    exact I1.fpOk (Nat.le_refl _) (I1.hok.fresh (Nat.le_refl _))
  rcases q with ⟨a, xs, e, hq, q⟩ | ⟨a, xs, e, hq, q⟩ | ⟨z, e, q⟩
  · subst e
    cases r1
    obtain ⟨its, rv, p, hz⟩ := I1.list hq
    refine wpAny_pyIter_list p.isList ?_
    exact ⟨s1.heap.objs.size, [s1.heap.objs.size], _, _, H1, rfl, I1.kept (t' := s1.toks) fun b o e => Heap.get?_push_of_some _ e, turn_list a _, ⟨_, Heap.get?_push_size _ rfl, rfl, rfl⟩, fun b hb => fp hb, q⟩
  · subst e
    cases r1
    obtain ⟨its, rv, p, hz⟩ := I1.tuple hq
    refine wpAny_pyIter_tuple (show s1.heap.IsTuple a its.toArray from p) ?_
    exact ⟨s1.heap.objs.size, [s1.heap.objs.size], _, _, H1, rfl, I1.kept (t' := s1.toks) fun b o e => Heap.get?_push_of_some _ e, turn_tuple a _, ⟨_, Heap.get?_push_size _ rfl, rfl, rfl⟩, fun b hb => fp hb, q⟩
  · subst e
    obtain ⟨t, rfl⟩ := r1
    cases ha : z.cps.all (· < 128)
    · exact wpAny_pyIter_wide ha (pi_one (tk := s1.toks) I1 _ (turn_str _ z t "str_iterator" (.inr rfl)) ⟨_, Heap.get?_push_size _ rfl, rfl, rfl⟩ q)
    · exact wpAny_pyIter_ascii ha (pi_one (tk := s1.toks) I1 _ (turn_str _ z t "str_ascii_iterator" (.inl rfl)) ⟨_, Heap.get?_push_size _ rfl, rfl, rfl⟩ q)
theorem any_end {K : PySem.W.Frag} {r : R} {v : V} {l Pv : PL} {ds : List D} {b : Bool} {P : PL} (h : ResR g r v l Pv) (hb : b = true → ∃ f, r = .v f) (e : plainS r = some ds) (G : Good g.B P H) (hl : ∀ p ∈ l, p ∈ P) (hv : ∀ p ∈ Pv, p ∈ P) {R0 : It → Hp → Prop}
    (q : ∀ J, RlJ b g ds J l Pv → R0 J H) : (∃ a xs, v = .ref a ∧ SqL K H a xs ∧ R0 (Itl K a) H) ∨ (∃ a xs, v = .ref a ∧ SqT K H a xs ∧ R0 (Itt K a) H) ∨ ∃ z, v = .str z ∧ R0 (Its z) H := by
  unfold plainS at e
  split at e
  · rename_i z ez
    split at e <;> cases e
    exact .inr (.inr ⟨z, res_str h ez, q _ ⟨[], it_str, by simp⟩⟩)
  · rcases isLT_cases e with e | e
    · obtain ⟨a, xs, e1, e2, e3⟩ := res_tupU h e
      exact .inr (.inl ⟨a, xs, e1, .inl (.inl (tup_at G e3)), q _ ⟨[], it_tup e3 e2, by simp⟩⟩)
    · obtain ⟨a, xs, L, e1, e2, e3, e4⟩ := res_listU h hb e
      refine .inl ⟨a, xs, e1, .inl (e3 g _ _ (.refl g) G fun p hp => ?_), q _ ⟨L, it_list e3 e2, e4⟩⟩
      rcases e4 p hp with k | ⟨_, k⟩
      · exact hl p k
      · exact hv p k
theorem allv_one {r : R} {b : Bool} {k : Src} {ds : List D} {rs : List R} (e : (if b && !R.allv rs then none else srcS k rs) = some ds) : srcS k rs = some ds ∧ (b = true → ∀ r ∈ rs, ∃ f, r = .v f) := by
  split at e
  · cases e
  · rename_i h
    refine ⟨e, fun hb r hr => ?_⟩
    subst hb
    simp only [Bool.true_and, Bool.not_eq_true', Bool.not_eq_false] at h
    unfold R.allv at h
    rw [List.all_eq_true] at h
    have := h r hr
    cases r with
    | v f => exact ⟨f, rfl⟩
    | w f => simp at this
/-- the members, where a Rel stands -/
theorem rel_mem {l : PL} {α : Prop} (R1 : Rel cl g ρ m ls (l ++ tmp) fr σ H) (k : ∀ P, Good g.B P H → (∀ p ∈ l, p ∈ P) → (∀ p ∈ ls ++ fr, p ∈ P) → α) : α := by
  obtain ⟨s, lc, c, G⟩ := R1
  refine k _ G (fun p hp => ?_) fun p hp => ?_
  · simp only [List.mem_append]; exact .inl (.inl hp)
  · simp only [List.mem_append] at hp ⊢
    rcases hp with hp | hp
    · exact .inr (.inl hp)
    · exact .inr (.inr (.inr hp))
theorem ps_any {b : Bool} (hs : PE X iter (tE cl W a)) : PI X tg iter (tI cl W b .plain (.cons a .no)) := by
  refine PI.by (pi_any hs) fun g ρ m ls tmp fr σ H R0 hR h => ⟨g, ρ, m, ls, tmp, fr, hR, ?_⟩
  have e0 : srcO b .plain (evs (.cons a .no) ρ m) = (ev a ρ m).bind fun r m1 => .of (if b && !R.allv [r] then none else srcS .plain [r]) m1 := by
    simp only [evs, srcO]
    cases ev a ρ m <;> rfl
  rw [e0] at h
  refine Aft.bind0 h fun r m1 v g1 H1 l1 _ le1 res1 R1 h1 => ?_
  cases e : (if b && !R.allv [r] then none else srcS .plain [r]) with
  | none => rw [e] at h1; exact h1.elim
  | some ds =>
    rw [e] at h1
    obtain ⟨e1, e2⟩ := allv_one (r := r) e
    exact rel_mem R1 fun P G hl hv => any_end res1 (fun hb => e2 hb r List.mem_cons_self) e1 G hl hv fun J q => h1 J g1 H1 l1 (.refl g1) q R1
/-- what the arguments' reading leads to -/
theorem src_args {k : Src} {bb : Bool} {wi : TI} {r : List V → Hp → (It → Hp → Prop) → Prop} (hwi : ∀ σ H R, tA cl W es σ H (fun vs H1 => r vs H1 R) → wi σ H R)
    (prim : ∀ (g : Gh) (rs : List R) (vs : List V) (l Pv P : PL) (H : Hp) (ds : List D) (R0 : It → Hp → Prop), Ress g rs vs l Pv → (bb = true → ∀ r ∈ rs, ∃ f, r = .v f) → srcS k rs = some ds → Good g.B P H → (∀ p ∈ l, p ∈ P) → (∀ p ∈ Pv, p ∈ P) → (∀ J, RlJ bb g ds J l Pv → R0 J H) → r vs H R0)
    {R0 : It → Hp → Prop} (hR : Rel cl g ρ m ls tmp fr σ H) (h : Aft cl W (RlJ bb) g ρ ls tmp fr σ R0 (srcO bb k (evs es ρ m))) : wi σ H R0 := by
  refine hwi σ H R0 ⟨g, ρ, m, ls, tmp, fr, hR, Aft.bind0 h fun rs m1 vs g1 H1 l1 _ le1 res1 R1 h1 => ?_⟩
  cases e : (if bb && !R.allv rs then none else srcS k rs) with
  | none => rw [e] at h1; exact h1.elim
  | some ds =>
    rw [e] at h1
    obtain ⟨e1, e2⟩ := allv_one (r := .p .non) e
    exact rel_mem R1 fun P G hl hv => prim g1 rs vs l1 (ls ++ fr) P H1 ds R0 res1 e2 e1 G hl hv fun J q => h1 J g1 H1 l1 (.refl g1) q R1
theorem inR_iff {i : Int} (h : inR i = true) : -(2 ^ 62) ≤ i ∧ i < 2 ^ 62 := by
  unfold inR at h
  exact of_decide_eq_true h
theorem sem1_some {α : Type} {f : R → Option α} {rs : List R} {d : α} (h : sem1 f rs = some d) : ∃ r, rs = [r] ∧ f r = some d := by
  unfold sem1 at h
  split at h
  · exact ⟨_, rfl, h⟩
  · cases h
theorem sem2_some {α : Type} {f : R → R → Option α} {rs : List R} {d : α} (h : sem2 f rs = some d) : ∃ r q, rs = [r, q] ∧ f r q = some d := by
  unfold sem2 at h
  split at h
  · exact ⟨_, _, rfl, h⟩
  · cases h
theorem ress1' {r : R} {vs : List V} {l Pv : PL} (h : Ress g [r] vs l Pv) : ∃ v, vs = [v] ∧ ResR g r v l Pv := by
  obtain ⟨v, t, l1, l2, rfl, rfl, q1, q2⟩ := h
  obtain ⟨rfl, rfl⟩ := q2
  exact ⟨v, rfl, by simpa using q1⟩
theorem ress2' {r q : R} {vs : List V} {l Pv : PL} (h : Ress g [r, q] vs l Pv) : ∃ v u l1 l2, vs = [v, u] ∧ l = l2 ++ l1 ∧ ResR g r v l1 Pv ∧ ResR g q u l2 Pv := by
  obtain ⟨v, t, l1, l2, rfl, rfl, q1, q2⟩ := h
  obtain ⟨u, rfl, q3⟩ := ress1' q2
  exact ⟨v, u, l1, l2, rfl, rfl, q1, q3⟩
theorem ps_range1 {bb : Bool} {p : Pos} (C : CtxOk X W N sc) (hg : glB sc "range" = true) (ha : PA X [x] (tA cl W es)) (hk : ckA N es sc [x] = true) : PI X tg (.Call (.Name "range" p) [x] [] pos) (tI cl W bb .range1 es) := by
  refine PI.by (pi_range1 (C.gl hg) (C.bn _ (by decide)) ha (star_all X.env hk)) fun g ρ m ls tmp fr σ H R hR h => src_args (r := fun vs H1 R => ∃ j : Int, vs = [.int j] ∧ -(2 ^ 62) ≤ j ∧ j < 2 ^ 62 ∧ R (Itr 0 j.toNat) H1) (fun _ _ _ h => h) (fun g rs vs l Pv P H ds R0 h hb e G hl hv q => ?_) hR h
  replace e := sem1_some (f := range1S) e
  obtain ⟨r, rfl, e⟩ := e
  replace h := ress1' h
  obtain ⟨v, rfl, h⟩ := h
  unfold range1S at e
  split at e
  · rename_i j ej
    unfold rangeS at e
    split at e <;> cases e
    rename_i hh
    simp only [Bool.and_eq_true] at hh
    obtain ⟨k1, k2⟩ := inR_iff hh.1.2
    refine ⟨j, by rw [res_int h ej], k1, k2, ?_⟩
    have := q (Itr 0 (j - 0).toNat) ⟨[], it_range, by simp⟩
    rwa [Int.sub_zero] at this
  · cases e
theorem ps_range2 {bb : Bool} {p : Pos} (C : CtxOk X W N sc) (hg : glB sc "range" = true) (ha : PA X [x, y] (tA cl W es)) (hk : ckA N es sc [x, y] = true) (hk2 : starEach [y] X.env = [(false, eval y X.env)]) : PI X tg (.Call (.Name "range" p) [x, y] [] pos) (tI cl W bb .range2 es) := by
  refine PI.by (pi_range2 (C.gl hg) (C.bn _ (by decide)) ha (star_all X.env hk) hk2) fun g ρ m ls tmp fr σ H R hR h => src_args (r := fun vs H1 R => ∃ i j : Int, vs = [.int i, .int j] ∧ (-(2 ^ 62) ≤ i ∧ i < 2 ^ 62 ∧ -(2 ^ 62) ≤ j ∧ j < 2 ^ 62) ∧ R (Itr i (j - i).toNat) H1) (fun _ _ _ h => h) (fun g rs vs l Pv P H ds R0 h hb e G hl hv q => ?_) hR h
  replace e := sem2_some (f := range2S) e
  obtain ⟨r, r', rfl, e⟩ := e
  replace h := ress2' h
  obtain ⟨v, u, l1, l2, rfl, rfl, h1, h2⟩ := h
  unfold range2S at e
  split at e
  · rename_i i j ei ej
    unfold rangeS at e
    split at e <;> cases e
    rename_i hh
    simp only [Bool.and_eq_true] at hh
    obtain ⟨k1, k2⟩ := inR_iff hh.1.1
    obtain ⟨k3, k4⟩ := inR_iff hh.1.2
    exact ⟨i, j, by rw [res_int h1 ei, res_int h2 ej], ⟨k1, k2, k3, k4⟩, q (Itr i (j - i).toNat) ⟨[], it_range, by simp⟩⟩
  · cases e
theorem rangeC_len : ∀ (n : Nat) (i c : Int), (rangeC i c n).length = n
  | 0, _, _ => rfl
  | n + 1, i, c => by simp [rangeC, rangeC_len n]
theorem rangeC_get : ∀ (n : Nat) (lo c : Int) (i : Nat) {d : VS.D}, (rangeC lo c n)[i]? = some d → d = .int (lo + (i : Nat) * c)
  | 0, _, _, _, _, e => by simp [rangeC] at e
  | n + 1, lo, c, 0, d, e => by simp [rangeC] at e; rw [← e]; simp
  | n + 1, lo, c, i + 1, d, e => by
    simp only [rangeC, List.getElem?_cons_succ] at e
    rw [rangeC_get n _ c i e]
    congr 1
    have : ((i + 1 : Nat) : Int) * c = (i : Int) * c + c := by rw [show ((i + 1 : Nat) : Int) = (i : Int) + 1 by omega, Int.add_mul, Int.one_mul]
    omega
theorem it_rangeC {g : Gh} {lo c : Int} {n : Nat} : ItOk g (Itc lo c n) (rangeC lo c n) [] := fun g' P H i le G hL => by
  refine ⟨fun d e => ?_, fun e => by rw [rangeC_len] at e; exact e⟩
  have hi : i < n := by
    have := (List.getElem?_eq_some_iff.mp e).1
    rw [rangeC_len] at this
    exact this
  refine ⟨hi, fun y H' ⟨e2, e3⟩ => ?_⟩
  subst e2 e3
  rw [rangeC_get n lo c i e]
  exact ⟨g', .refl g', rfl, G, by simp only [Rep]⟩
theorem sem3_some {α : Type} {f : R → R → R → Option α} {rs : List R} {d : α} (h : sem3 f rs = some d) : ∃ r q t, rs = [r, q, t] ∧ f r q t = some d := by
  unfold sem3 at h
  split at h
  · exact ⟨_, _, _, rfl, h⟩
  · cases h
theorem ps_range3 {bb : Bool} {p : Pos} (C : CtxOk X W N sc) (hg : glB sc "range" = true) (ha : PA X [x, y, z] (tA cl W es)) (hs : starEach [x, y, z] X.env = (false, eval x X.env) :: starEach [y, z] X.env) (hpl : (backTo pos (starEach [y, z] X.env)).any (·.1) = false) : PI X tg (.Call (.Name "range" p) [x, y, z] [] pos) (tI cl W bb .range3 es) := by
  refine PI.by (pi_range3 (C.gl hg) (C.bn _ (by decide)) ha hs hpl) fun g ρ m ls tmp fr σ H R hR h => src_args (r := fun vs H1 R => ∃ (i j c : Int) (n : Nat), vs = [.int i, .int j, .int c] ∧ RgC i j c n ∧ R (Itc i c n) H1) (fun _ _ _ h => h) (fun g rs vs l Pv P H ds R0 h hb e G hl hv q => ?_) hR h
  replace e := sem3_some (f := range3S) e
  obtain ⟨r, r', r'', rfl, e⟩ := e
  obtain ⟨v, t, l1, l2, rfl, rfl, h1, h2⟩ := h
  replace h2 := ress2' h2
  obtain ⟨u, w, l3, l4, rfl, rfl, h2, h3⟩ := h2
  unfold range3S at e
  split at e
  · rename_i i j c ei ej ec
    split at e <;> cases e
    rename_i hh
    obtain ⟨c1, c2, c3, c4, c5⟩ := hh
    exact ⟨i, j, c, _, by rw [res_int h1 ei, res_int h2 ej, res_int h3 ec], ⟨c1, c2, c3, by omega⟩, q _ ⟨[], it_rangeC, by simp⟩⟩
  · cases e
theorem ps_enum {bb : Bool} {p : Pos} {elts : List Expr} {kk : Nat} {tpos : Pos} (C : CtxOk X W N sc) (hg : glB sc "enumerate" = true) (ha : PA X [x] (tA cl W es)) (hk : ckA N es sc [x] = true) : PI X (.Tuple elts kk tpos) (.Call (.Name "enumerate" p) [x] [] pos) (tI cl W bb .enum es) := by
  refine PI.by (pi_enum (C.gl hg) (C.bn _ (by decide)) ha (star_all X.env hk)) fun g ρ m ls tmp fr σ H R hR h => src_args (r := fun vs H1 R => ∃ a xs, vs = [.ref a] ∧ SqL X.K H1 a xs ∧ R (Ite X.K a) H1) (fun _ _ _ h => h) (fun g rs vs l Pv P H ds R0 h hb e G hl hv q => ?_) hR h
  replace e := sem1_some (f := enumS) e
  obtain ⟨r, rfl, e⟩ := e
  replace h := ress1' h
  obtain ⟨v, rfl, h⟩ := h
  unfold enumS at e
  rw [Option.map_eq_some_iff] at e
  obtain ⟨es, e, rfl⟩ := e
  obtain ⟨a, xs, L, e1, e2, e3, e4⟩ := res_listU h (fun z => hb z r List.mem_cons_self) e
  refine ⟨a, xs, by rw [e1], .inl (e3 g _ _ (.refl g) G fun p hp => ?_), q _ ⟨L, it_enum e3 e2, e4⟩⟩
  rcases e4 p hp with k | ⟨_, k⟩
  · exact hl p k
  · exact hv p k
theorem ps_zip {bb : Bool} {p : Pos} {elts : List Expr} {kk : Nat} {tpos : Pos} (C : CtxOk X W N sc) (hg : glB sc "zip" = true) (ha : PA X [x, y] (tA cl W es)) (hk : ckA N es sc [x, y] = true)
    (hs : starEach [x, y] X.env = (false, eval x X.env) :: starEach [y] X.env) (hpl : (backTo pos (starEach [y] X.env)).any (·.1) = false) : PI X (.Tuple elts kk tpos) (.Call (.Name "zip" p) [x, y] [] pos) (tI cl W bb .zip es) := by
  refine PI.by (RZ.pi_zipA (C.gl hg) (C.bn _ (by decide)) ha hs hpl) fun g ρ m ls tmp fr σ H R hR h => src_args (r := fun vs H1 R => ∃ a b xs ys, vs = [.ref a, .ref b] ∧ ((SqL X.K H1 a xs ∧ SqL X.K H1 b ys ∧ R (Itz X.K a b) H1) ∨ (SqT X.K H1 a xs ∧ SqT X.K H1 b ys ∧ R (RZ.ItzT X.K a b) H1))) (fun _ _ _ h => h) (fun g rs vs l Pv P H ds R0 h hb e G hl hv q => ?_) hR h
  replace e := sem2_some (f := zipS) e
  obtain ⟨r, r', rfl, e⟩ := e
  replace h := ress2' h
  obtain ⟨v, u, l1, l2, rfl, rfl, h1, h2⟩ := h
  unfold zipS at e
  split at e
  · rename_i as ea
    rw [Option.map_eq_some_iff] at e
    obtain ⟨bs, eb, rfl⟩ := e
    have f1 : r.f = .d (.tup as) := by
      unfold F.isT at ea
      split at ea <;> cases ea
      assumption
    have f2 : r'.f = .d (.tup bs) := by
      unfold F.isT at eb
      split at eb <;> cases eb
      assumption
    obtain ⟨a, xs, rfl, e2, e3⟩ := res_tupU h1 f1
    obtain ⟨b, ys, rfl, e2', e3'⟩ := res_tupU h2 f2
    exact ⟨a, b, xs, ys, rfl, .inr ⟨.inl (.inl (tup_at G e3)), .inl (.inl (tup_at G e3')), q _ ⟨[], it_zipT e3 e2 e3' e2', by simp⟩⟩⟩
  · simp only [Option.bind_eq_some_iff, Option.map_eq_some_iff] at e
    obtain ⟨as, ea, bs, eb, rfl⟩ := e
    obtain ⟨a, xs, L, rfl, e2, e3, e4⟩ := res_listU h1 (fun z => hb z r List.mem_cons_self) ea
    obtain ⟨b, ys, L', rfl, e2', e3', e4'⟩ := res_listU h2 (fun z => hb z r' (by simp)) eb
    have k1 : ∀ p ∈ L, p ∈ l2 ++ l1 ∨ (bb = false ∧ p ∈ Pv) := fun p hp => (e4 p hp).imp (fun z => List.mem_append_right _ z) id
    have k2 : ∀ p ∈ L', p ∈ l2 ++ l1 ∨ (bb = false ∧ p ∈ Pv) := fun p hp => (e4' p hp).imp (fun z => List.mem_append_left _ z) id
    have inP : ∀ {L : PL}, (∀ p ∈ L, p ∈ l2 ++ l1 ∨ (bb = false ∧ p ∈ Pv)) → ∀ p ∈ L, p ∈ P := fun k p hp => (k p hp).elim (fun z => hl p z) fun z => hv p z.2
    refine ⟨a, b, xs, ys, rfl, .inl ⟨.inl (e3 g _ _ (.refl g) G (inP k1)), .inl (e3' g _ _ (.refl g) G (inP k2)), q _ ⟨L ++ L', it_zip (e3.mono (.refl g) fun p hp => List.mem_append_left _ hp) e2 (e3'.mono (.refl g) fun p hp => List.mem_append_right _ hp) e2', fun p hp => ?_⟩⟩⟩
    rcases List.mem_append.mp hp with hp | hp
    · exact k1 p hp
    · exact k2 p hp
end
end VS

/-! VSr: list comprehensions. -/
namespace VS
open PySem PySem.Spec PyProof.Rows L2
theorem count_sum {α : Type} [DecidableEq α] (a : α) : ∀ l : List α, l.count a = (l.map fun x => if x = a then 1 else 0).sum
  | [] => rfl
  | x :: l => by
    rw [List.map_cons, List.sum_cons, ← count_sum a l, List.count_cons]
    by_cases h : x = a
    · simp [h]; omega
    · simp [h]
theorem perm_sums {α : Type} {l l' : List α} (h : ∀ f : α → Nat, (l.map f).sum = (l'.map f).sum) : l.Perm l' := by
  classical
  rw [List.perm_iff_count]
  intro a
  rw [count_sum, count_sum]
  exact h _
theorem Perm.sums {α : Type} {l l' : List α} (h : l.Perm l') (f : α → Nat) : (l.map f).sum = (l'.map f).sum := (h.map f).sum_nat
theorem Good.re {B : Hp} {P P' l0 : PL} {H : Hp} (G : Good B P H) (h : ∀ f : Addr × HO → Nat, (P.map f).sum = (l0.map f).sum + (P'.map f).sum) : Good B P' H :=
  (G.perm (perm_sums fun f => by rw [h f, List.map_append, List.sum_append_nat] : P.Perm (l0 ++ P'))).tail
theorem Out.calm_exc {α : Type} {o : Out α} {c : Str} {m : Mem} : o.calm ≠ .exc c m := by cases o <;> simp [Out.calm]
theorem compL_calm {test : Env → Mem → Out Bool} {elt : Env → Mem → Out R} (h1 : ∀ ρ m c m', test ρ m ≠ .exc c m') (h2 : ∀ ρ m c m', elt ρ m ≠ .exc c m') {tg : Tg} {ρ : Env} {c : Str} {m' : Mem} : ∀ (ds : List D) (m : Mem), compL test elt tg ρ ds m ≠ .exc c m'
  | [], m => by simp [compL]
  | d :: ds, m => by
    unfold compL
    split
    · simp
    · rename_i ρ1 _
      cases e1 : test ρ1 m with
      | bad => simp [Out.bind]
      | exc c m2 => exact absurd e1 (h1 _ _ _ _)
      | ok b m2 =>
        simp only [Out.bind]
        split
        · cases e2 : elt ρ1 m2 with
          | bad => simp
          | exc c m3 => exact absurd e2 (h2 _ _ _ _)
          | ok r m3 =>
            simp only
            split
            · cases e3 : compL test elt tg ρ ds m3 with
              | bad => simp
              | exc c m4 => exact absurd e3 (compL_calm h1 h2 ds m3)
              | ok r m4 => simp
            · simp
        · exact compL_calm h1 h2 ds m2
theorem owns_snoc {g : Gh} : ∀ {fs : List F} {vs : List V} {l l2 : PL} {f : F} {v : V}, Owns g fs vs l → Own g f v l2 → Owns g (fs ++ [f]) (vs ++ [v]) (l ++ l2)
  | [], vs, l, l2, f, v, h, k => by
    simp only [Owns] at h
    obtain ⟨rfl, rfl⟩ := h
    simp only [List.nil_append, Owns]
    exact ⟨v, [], l2, [], rfl, by simp, k, rfl, rfl⟩
  | f0 :: fs, vs, l, l2, f, v, h, k => by
    simp only [Owns] at h
    obtain ⟨x, t, l1, l3, rfl, rfl, q1, q2⟩ := h
    simp only [List.cons_append, Owns]
    exact ⟨x, t ++ [v], l1, l3 ++ l2, rfl, by rw [List.append_assoc], q1, owns_snoc q2 k⟩
def WN : WX := fun _ _ _ _ => False
section
variable {cl : Cl} {X : Cx} {W : WX} {N : List Str} {sc scope : Scope} {g : Gh} {ρ : Env} {m : Mem} {ls tmp fr : PL} {σ : L2.St} {H : Hp} {Q : VK} {a b c es elt : E} {x y z tg iter : Expr} {xs : List Expr} {pos : Pos}
def RlBB (_ : Gh) (b b' : Bool) (l _ : PL) : Prop := b = b' ∧ l = []
def tB (cl : Cl) (c : E) : TT := fun σ H Q => ∃ g ρ m ls tmp fr, Rel cl g ρ m ls tmp fr σ H ∧ Aft cl WN RlBB g ρ ls tmp fr σ Q (tst c (ev c ρ m)).calm
theorem pts_no : PTs X [] (tB cl .no) := ⟨fun pins s σ H Q I ⟨g, ρ, m, ls, tmp, fr, hR, h⟩ => pts_nil.run pins s σ H Q I (h true g H [] (.refl g) ⟨rfl, rfl⟩ hR)⟩
theorem pts_c (h : PT X x (tT cl WN c)) (hn : c ≠ .no) : PTs X [x] (tB cl c) := by
  refine ⟨fun pins s σ H Q I ⟨g, ρ, m, ls, tmp, fr, hR, k⟩ => (pts_one h).run pins s σ H Q I ⟨g, ρ, m, ls, tmp, fr, hR, ?_⟩⟩
  have e : tst c (ev c ρ m) = (ev c ρ m).bind fun x m => .of (isTr x) m := by
    cases c <;> first | rfl | exact absurd rfl hn
  rw [e] at k
  cases e1 : ev c ρ m with
  | bad => rw [e1] at k; exact k.elim
  | exc k' m' => rw [e1] at k; exact k.elim
  | ok r m1 =>
    rw [e1] at k
    have k : Aft cl WN RlBB g ρ ls tmp fr σ Q (Out.of (isTr r) m1).calm := k
    show Aft cl WN RlB g ρ ls tmp fr σ Q (match isTr r with | some b => .ok (.p (.bl b)) m1 | none => .bad)
    cases e2 : isTr r with
    | none => rw [e2] at k; exact k
    | some b =>
      rw [e2] at k
      exact fun v g' H' l le ⟨q1, q2⟩ R1 => k v g' H' l le ⟨by cases q1; rfl, q2⟩ R1
theorem Aft.len {α β : Type} {Rl : Gh → α → β → PL → PL → Prop} {Q1 : β → Hp → Prop} {test : Env → Mem → Out Bool} {el : Env → Mem → Out R} (h1 : ∀ ρ m c m', test ρ m ≠ .exc c m') (h2 : ∀ ρ m c m', el ρ m ≠ .exc c m') {tg : Tg} {ρ' : Env} {ds : List D} {fs : List F} {k : List F → Mem → Out α}
    (h : Aft cl W Rl g ρ ls tmp fr σ Q1 ((compL test el tg ρ' ds m).bind fun gs m2 => if (fs ++ gs).length ≤ sizeB then k gs m2 else .bad)) : fs.length ≤ sizeB := by
  cases e : compL test el tg ρ' ds m with
  | bad => rw [e] at h; exact h.elim
  | exc c m' => exact absurd e (compL_calm h1 h2 ds m)
  | ok gs m2 =>
    rw [e] at h
    simp only [Out.bind] at h
    split at h
    · rename_i hl
      rw [List.length_append] at hl
      omega
    · exact h.elim
theorem rd_comp {tgt : Tg} {k : Src} {own : List (Str × Nat)} {R0 : VK} (hown : ∀ i ∈ tgSlots tgt, i ∈ own.map (·.2)) (h : tE cl W (.comp elt tgt k es c own) σ H R0) :
    tLc (tI cl W false k es) (gTgt X.K tgt) (tB cl c) (tE cl WN elt) (own.map (·.2)) σ H R0 := by
  obtain ⟨g, ρ, m, ls, tmp, fr, hR, h⟩ := h
  refine ⟨g, ρ, m, ls, tmp, fr, hR, Aft.bind0 h fun ds m1 J g1 H1 l1 _ le1 res1 R1 h1 => ?_⟩
  clear h hR
  obtain ⟨L, it, hL⟩ := res1
  intro D hD
  generalize hvs : own.map (·.2) = vs at *
  generalize htest : (fun ρ' m' => (tst c (ev c ρ' m')).calm) = test at *
  generalize helt : (fun ρ' m' => (ev elt ρ' m').calm) = el at *
  have c1 : ∀ ρ m c m', test ρ m ≠ .exc c m' := by subst htest; exact fun _ _ _ _ => Out.calm_exc
  have c2 : ∀ ρ m c m', el ρ m ≠ .exc c m' := by subst helt; exact fun _ _ _ _ => Out.calm_exc
  obtain ⟨s, lc0, cc, G⟩ := R1
  obtain ⟨ls1, ls2, pls, sw⟩ := s.wipe vs
  have psum := fun f => Perm.sums pls f
  simp only [List.map_append, List.sum_append_nat] at psum
  refine ⟨fun i k H => k = ds.length - i ∧ i ≤ ds.length ∧ ∃ g2 fs m2 acc lacc, g1.le g2 ∧ Owns g2 fs acc lacc ∧ Rel cl g2 (wipeR ρ vs) m2 ls1 (((D, .lst acc) :: lacc) ++ (ls2 ++ (l1 ++ tmp))) fr (L2.wipe σ vs) H ∧
    Aft cl W ResR g1 ρ ls tmp fr σ R0 ((compL test el tgt (wipeR ρ vs) (ds.drop i) m2).bind fun gs m2 => if (fs ++ gs).length ≤ sizeB then .ok (.v (.lst (fs ++ gs))) m2 else .bad),
    ⟨ds.length, by simp, Nat.zero_le _, g1, [], m1, [], [], .refl g1, by simp only [Owns]; exact ⟨trivial, trivial⟩, ⟨sw, lc0, cc, ?_⟩, by simpa using h1⟩, ?_⟩
  · refine (G.new (o := .lst []) hD rfl).re (l0 := []) fun f => ?_
    simp only [List.map_append, List.sum_append_nat, List.map_cons, List.sum_cons, List.map_nil, List.sum_nil]
    have := psum f
    omega
  rintro i k H2 ⟨rfl, hi, g2, fs, m2, acc, lacc, le2, ow, R2, h2⟩
  obtain ⟨s2, lc2, cc2, G2⟩ := R2
  have hLP : ∀ p ∈ L, p ∈ ((((D, .lst acc) :: lacc) ++ (ls2 ++ (l1 ++ tmp))) ++ (ls1 ++ (lc2 ++ fr)) : PL) := fun p hp => by
    simp only [List.mem_append, List.mem_cons]
    rcases hL p hp with q | ⟨_, q⟩
    · exact .inl (.inr (.inr (.inl q)))
    · rcases List.mem_append.mp q with q | q
      · rcases List.mem_append.mp (pls.mem_iff.mp q) with q | q
        · exact .inr (.inl q)
        · exact .inl (.inr (.inl q))
      · exact .inr (.inr (.inr q))
  by_cases hlt : i < ds.length
  · obtain ⟨hgo, hyl⟩ := (it g2 _ H2 i le2 G2 hLP).1 ds[i] (by simp [hlt])
    have dr : ds.drop i = ds[i] :: ds.drop (i + 1) := List.drop_eq_getElem_cons hlt
    rw [dr] at h2
    unfold compL at h2
    refine .inr ⟨hgo, fun H3 => ∃ g3 fs m3 acc lacc, g1.le g3 ∧ Owns g3 fs acc lacc ∧ Rel cl g3 (wipeR ρ vs) m3 ls1 (((D, .lst acc) :: lacc) ++ (ls2 ++ (l1 ++ tmp))) fr (L2.wipe σ vs) H3 ∧
      Aft cl W ResR g1 ρ ls tmp fr σ R0 ((compL test el tgt (wipeR ρ vs) (ds.drop (i + 1)) m3).bind fun gs m2 => if (fs ++ gs).length ≤ sizeB then .ok (.v (.lst (fs ++ gs))) m2 else .bad),
      fun H' ⟨g3, fs3, m3, acc3, lacc3, q⟩ => ⟨ds.length - (i + 1), by omega, rfl, hlt, g3, fs3, m3, acc3, lacc3, q⟩, fun v H3 y3 => ?_⟩
    obtain ⟨g3, le3, as3, G3, rep3⟩ := hyl v H3 y3
    cases et : setTg tgt ds[i] (wipeR ρ vs) with
    | none => rw [et] at h2; exact h2.elim
    | some ρ1 =>
      rw [et] at h2
      replace h2 : Aft cl W ResR g1 ρ ls tmp fr σ R0 (((test ρ1 m2).bind fun b m1 => if b = true then (el ρ1 m1).bind fun r m2 => match r with | .v f => (compL test el tgt (wipeR ρ vs) (ds.drop (i + 1)) m2).bind fun fs m3 => .ok (f :: fs) m3 | .w _ => .bad else compL test el tgt (wipeR ρ vs) (ds.drop (i + 1)) m1).bind fun gs m2 => if (fs ++ gs).length ≤ sizeB then .ok (.v (.lst (fs ++ gs))) m2 else .bad) := h2
      obtain ⟨σ1, ls1', l0, hQ, s1, p1, len1, out1⟩ := tgt_ok (K := X.K) et rep3 (s2.mono le3) G3
      have psum1 := fun f => Perm.sums p1 f
      simp only [List.map_append, List.sum_append_nat] at psum1
      refine hQ _ ⟨wipe_eq (by rw [len1, wipe_length]) fun j hj => by rw [out1 j (fun z => hj (hown j z)), wipe_out hj], ?_⟩
      have cc3 : Cells cl g3 m2 g3.as lc2 := as3 ▸ cc2.mono le3
      refine ⟨g3, ρ1, m2, ls1', l0 ++ (((D, .lst acc) :: lacc) ++ (ls2 ++ (l1 ++ tmp))), fr, ⟨s1, lc2, cc3, G3.re (l0 := []) fun f => ?_⟩, ?_⟩
      · simp only [List.map_append, List.sum_append_nat, List.map_cons, List.sum_cons, List.map_nil, List.sum_nil]
        have := psum1 f
        omega
      have e1 : (tst c (ev c ρ1 m2)).calm = test ρ1 m2 := by subst htest; rfl
      rw [e1]
      cases eT : test ρ1 m2 with
      | bad => rw [eT] at h2; exact h2.elim
      | exc c m' => exact absurd eT (c1 _ _ _ _)
      | ok bb m3 =>
        rw [eT] at h2
        rintro b4 g4 H4 l4 le4 ⟨rfl, rfl⟩ ⟨s4, lc4, cc4, G4⟩
        cases bb with
        | false =>
          simp only [Bool.false_eq_true, if_false]
          refine ⟨g4, fs, m3, acc, lacc, (le2.trans le3).trans le4, Owns.mono (le3.trans le4) _ _ _ ow, ⟨(sw.mono le2).mono (le3.trans le4), lc4, cc4, G4.re (l0 := []) fun f => ?_⟩, h2⟩
          simp only [List.map_append, List.sum_append_nat, List.map_cons, List.sum_cons, List.map_nil, List.sum_nil]
          have := psum1 f
          omega
        | true =>
          simp only [if_true]
          have h2 : Aft cl W ResR g1 ρ ls tmp fr σ R0 (((el ρ1 m3).bind fun r m2 => match r with | .v f => (compL test el tgt (wipeR ρ vs) (ds.drop (i + 1)) m2).bind fun fs m3 => .ok (f :: fs) m3 | .w _ => .bad).bind fun gs m2 => if (fs ++ gs).length ≤ sizeB then .ok (.v (.lst (fs ++ gs))) m2 else .bad) := h2
          refine ⟨g4, ρ1, m3, ls1', _, fr, ⟨s4, lc4, cc4, G4⟩, ?_⟩
          cases eE : ev elt ρ1 m3 with
          | bad =>
            have : el ρ1 m3 = .bad := by subst helt; simp only [eE, Out.calm]
            rw [this] at h2
            exact h2.elim
          | exc c m' =>
            have : el ρ1 m3 = .bad := by subst helt; simp only [eE, Out.calm]
            rw [this] at h2
            exact h2.elim
          | ok r m4 =>
            have : el ρ1 m3 = .ok r m4 := by subst helt; simp only [eE, Out.calm]
            rw [this] at h2
            cases r with
            | w f => exact h2.elim
            | v f =>
              have h3 : Aft cl W ResR g1 ρ ls tmp fr σ R0 ((compL test el tgt (wipeR ρ vs) (ds.drop (i + 1)) m4).bind fun gs m2 => if ((fs ++ [f]) ++ gs).length ≤ sizeB then .ok (.v (.lst ((fs ++ [f]) ++ gs))) m2 else .bad) := by
                have e : ((Out.ok (R.v f) m4).bind fun r m2 => match r with | .v f => (compL test el tgt (wipeR ρ vs) (ds.drop (i + 1)) m2).bind fun fs m3 => .ok (f :: fs) m3 | .w _ => .bad).bind (fun gs m2 => if (fs ++ gs).length ≤ sizeB then Out.ok (R.v (.lst (fs ++ gs))) m2 else .bad)
                  = (compL test el tgt (wipeR ρ vs) (ds.drop (i + 1)) m4).bind fun gs m2 => if ((fs ++ [f]) ++ gs).length ≤ sizeB then .ok (.v (.lst ((fs ++ [f]) ++ gs))) m2 else .bad := by
                  simp only [Out.bind]
                  cases compL test el tgt (wipeR ρ vs) (ds.drop (i + 1)) m4 <;> simp
                rw [← e]
                exact h2
              rintro u g5 H5 l5 le5 res5 ⟨s5, lc5, cc5, G5⟩
              have hlen := Aft.len c1 c2 h3
              rw [List.length_append, List.length_singleton, sizeB_eq] at hlen
              have hl : acc.length = fs.length := own_len ow
              have G6 : Good g5.B ((D, .lst acc) :: (lacc ++ (l5 ++ ((ls2 ++ (l1 ++ tmp)) ++ (ls1 ++ (lc5 ++ fr)))))) H5 := G5.re (l0 := []) fun f => by
                simp only [List.map_append, List.sum_append_nat, List.map_cons, List.sum_cons, List.map_nil, List.sum_nil]
                have := psum1 f
                omega
              have le15 : g2.le g5 := le3.trans (le4.trans le5)
              refine ⟨acc, (G6.at_ _ List.mem_cons_self).1, by omega, g5, fs ++ [f], m4, acc ++ [u], lacc ++ l5, le2.trans le15, owns_snoc (Owns.mono le15 _ _ _ ow) res5, ⟨(sw.mono le2).mono le15, lc5, cc5, (G6.write (o' := .lst (acc ++ [u])) rfl).re (l0 := []) fun f => ?_⟩, h3⟩
              simp only [List.map_append, List.sum_append_nat, List.map_cons, List.sum_cons, List.map_nil, List.sum_nil]
              omega
  · have hi' : i = ds.length := by omega
    subst hi'
    refine .inl ⟨(it g2 _ H2 ds.length le2 G2 hLP).2 (Nat.le_refl _), ?_⟩
    rw [List.drop_length] at h2
    simp only [compL, Out.bind, List.append_nil] at h2
    split at h2
    · refine h2 (.ref D) g2 H2 ((D, .lst acc) :: lacc) le2 ?_ ⟨s.mono le2, lc2, cc2, G2.re (l0 := l1) fun f => ?_⟩
      · show Own _ (.lst fs) _ _
        simp only [Own]
        exact ⟨D, acc, lacc, rfl, rfl, ow⟩
      · simp only [List.map_append, List.sum_append_nat, List.map_cons, List.sum_cons]
        have := psum f
        omega
    · exact h2.elim
theorem blk_ctx (C : CtxOk X W N sc) {s : Shared} {H : Hp} {cs : List (Str × Addr)} {Ca : Addr} {fp : List Addr} : CtxOk (X.blk s H scope (compEnvC scope cs Ca X.env) fp) WN N (relS scope sc) where
  calm := C.calm
  hN := C.hN
  nd := C.nd
  hsc := by rw [← C.hsc]; rfl
  tk := takes0
  un := C.un
  bn := C.bn
theorem blk_fn {s : Shared} {H : Hp} {cs : List (Str × Addr)} {Ca : Addr} {fp : List Addr} : FnIs (X.blk s H scope (compEnvC scope cs Ca X.env) fp) scope := fun x h => by
  have hl := locB_loc h
  rcases hl with hl | hl
  · have e : (relS scope X.env.scope).names.lookup x = some .local := lookup_relS_keep (by decide) hl
    exact ⟨.inl e, .inr e⟩
  · have e : (relS scope X.env.scope).names.lookup x = some .cell := lookup_relS_keep (by decide) hl
    refine ⟨.inr e, .inl ?_⟩
    show (scope.names.lookup x == some NameKind.cell) = true
    rw [hl]
    rfl
end
end VS

/-! VSs: the soundness of expressions. -/
namespace VS
open PySem PySem.Spec PyProof.Rows L2
section
variable {cl : Cl} {N : List Str}
theorem ck_set {sc : Scope} : ∀ (ir : E) {xs : List Expr} {k : Nat} {p : Pos}, ckE N ir sc (.Set xs k p) = false
  | .frz a, x, _, p => by simp only [ckE]; exact ck_set a
  | .no, _, _, _ => rfl | .var _, _, _, _ => rfl | .cst _, _, _, _ => rfl | .glb _ _, _, _, _ => rfl | .bin _ _ _, _, _, _ => rfl | .neg _, _, _, _ => rfl | .not _, _, _, _ => rfl | .cmp _ _ _, _, _, _ => rfl | .cmp2 _ _ _ _ _, _, _, _ => rfl
  | .and _ _, _, _, _ => rfl | .or _ _, _, _, _ => rfl | .ifx _ _ _, _, _, _ => rfl | .sub _ _, _, _, _ => rfl | .slice _ _ _, _, _, _ => rfl | .tup _, _, _, _ => rfl | .lst _, _, _, _ => rfl | .dnew, _, _, _ => rfl | .call _ _ _, _, _, _ => rfl
  | .rev _ _, _, _, _ => rfl | .bi _ _, _, _, _ => rfl | .isi _ _, _, _, _ => rfl | .mth _ _ _, _, _, _ => rfl | .comp _ _ _ _ _ _, _, _, _ => rfl | .cons _ _, _, _, _ => rfl
theorem fold_of {sc : Scope} {ir : E} {e : Expr} (h : ckE N ir sc e = true) (env : PySem.Env) (x : Value) : foldedSetIterable e env x = pure x := by
  cases e <;> first | rfl | (rw [ck_set ir] at h; cases h)
def SndE (cl : Cl) (N : List Str) (e : E) : Prop := ∀ {X : Cx} {W : WX} {sc : Scope} {ast : Expr}, CtxOk X W N sc → e.Lk (CallOk cl X) (GlbOk X) → ckE N e sc ast = true → PE X ast (tE cl W e)
def SndT (cl : Cl) (N : List Str) (e : E) : Prop := ∀ {X : Cx} {W : WX} {sc : Scope} {ast : Expr}, CtxOk X W N sc → e.Lk (CallOk cl X) (GlbOk X) → ckE N e sc ast = true → okT e = true → PT X ast (tT cl W e)
def SndA (cl : Cl) (N : List Str) (e : E) : Prop := ∀ {X : Cx} {W : WX} {sc : Scope} {xs : List Expr}, CtxOk X W N sc → e.Lk (CallOk cl X) (GlbOk X) → ckA N e sc xs = true → PA X xs (tA cl W e)
structure Snd (cl : Cl) (N : List Str) (e : E) : Prop where
  pe : SndE cl N e
  pt : SndT cl N e
  pa : SndA cl N e
  hd : ∀ s r, e = .cons s r → SndE cl N s
/-- a source's text -/
def ckSrc (N : List Str) (k : Src) (es : E) (sc : Scope) (t it : Expr) : Bool := match k with
  | .plain => (match es with | .cons s .no => ckE N s sc it | _ => false)
  | .range1 => (match it with | .Call (.Name f _) [a] [] _ => decide (f = ("range" : Str)) && glB sc f && ckA N es sc [a] | _ => false)
  | .range2 => (match it with | .Call (.Name f _) [a, b] [] _ => decide (f = ("range" : Str)) && glB sc f && ckA N es sc [a, b] | _ => false)
  | .range3 => (match it with | .Call (.Name f _) [a, b, c] [] _ => decide (f = ("range" : Str)) && glB sc f && ckA N es sc [a, b, c] | _ => false)
  | .enum => (match it with | .Call (.Name f _) [a] [] _ => decide (f = ("enumerate" : Str)) && glB sc f && ckA N es sc [a] && isTup t | _ => false)
  | .zip => (match it with | .Call (.Name f _) [a, b] [] _ => decide (f = ("zip" : Str)) && glB sc f && ckA N es sc [a, b] && isTup t | _ => false)
  | _ => false
theorem isTup_of {t : Expr} (h : isTup t = true) : ∃ es k p, t = .Tuple es k p := by
  cases t <;> simp [isTup] at h
  exact ⟨_, _, _, rfl⟩
theorem src_of {X : Cx} {W : WX} {sc : Scope} {k : Src} {es : E} {t it : Expr} {b : Bool} (S : Snd cl N es) (C : CtxOk X W N sc) (hl : es.Lk (CallOk cl X) (GlbOk X)) (h : ckSrc N k es sc t it = true) : PI X t it (tI cl W b k es) ∧ ∀ x, foldedSetIterable it X.env x = pure x := by
  cases k
  · simp only [ckSrc] at h
    split at h
    · rename_i s
      exact ⟨ps_any (S.hd s .no rfl C hl.1 h), fold_of h X.env⟩
    · cases h
  · simp only [ckSrc] at h
    split at h
    · simp only [Bool.and_eq_true, decide_eq_true_eq] at h
      obtain ⟨⟨rfl, h1⟩, h2⟩ := h
      exact ⟨ps_range1 C h1 (S.pa C hl h2) h2, fun _ => rfl⟩
    · cases h
  · simp only [ckSrc] at h
    split at h
    · rename_i f p a b' q
      simp only [Bool.and_eq_true, decide_eq_true_eq] at h
      obtain ⟨⟨rfl, h1⟩, h2⟩ := h
      have h3 : starEach [b'] X.env = [(false, eval b' X.env)] := by
        cases es <;> simp only [ckA, Bool.false_eq_true, Bool.and_eq_true] at h2
        exact star_all X.env h2.2
      exact ⟨ps_range2 C h1 (S.pa C hl h2) h2 h3, fun _ => rfl⟩
    · cases h
  · simp only [ckSrc] at h
    split at h
    · rename_i f p a b' c' q
      simp only [Bool.and_eq_true, decide_eq_true_eq] at h
      obtain ⟨⟨rfl, h1⟩, h2⟩ := h
      obtain ⟨q1, q2⟩ := ck_cons h2 X.env q
      exact ⟨ps_range3 C h1 (S.pa C hl h2) q1 q2, fun _ => rfl⟩
    · cases h
  · simp only [ckSrc] at h
    split at h
    · simp only [Bool.and_eq_true, decide_eq_true_eq] at h
      obtain ⟨⟨⟨rfl, h1⟩, h2⟩, h3⟩ := h
      obtain ⟨_, _, _, rfl⟩ := isTup_of h3
      exact ⟨ps_enum C h1 (S.pa C hl h2) h2, fun _ => rfl⟩
    · cases h
  · simp only [ckSrc] at h
    split at h
    · rename_i f p a b' q
      simp only [Bool.and_eq_true, decide_eq_true_eq] at h
      obtain ⟨⟨⟨rfl, h1⟩, h2⟩, h3⟩ := h
      obtain ⟨_, _, _, rfl⟩ := isTup_of h3
      obtain ⟨q1, q2⟩ := ck_cons h2 X.env q
      exact ⟨ps_zip C h1 (S.pa C hl h2) h2 q1 q2, fun _ => rfl⟩
    · cases h
  · simp [ckSrc] at h
  · simp [ckSrc] at h
/-- a comprehension's tests -/
def ckIfs (N : List Str) (c : E) (sc : Scope) (ifs : List Expr) : Bool := match ifs with
  | [] => (match c with | .no => true | _ => false)
  | [e] => ckE N c sc e && okT c
  | _ => false
/-- what a comprehension's parts come to -/
structure LcOk (cl : Cl) (X : Cx) (W : WX) (N : List Str) (elt : E) (tg : Tg) (k : Src) (es c : E) (own : List (Str × Nat)) (x t it : Expr) (ifs : List Expr) (scope : Scope) : Prop where
  pi : PI X t it (tI cl W false k es)
  ok : BlkOk X.N X.env.scope scope own
  hg : ∀ (s : Shared) (H : Hp) (Ca : Addr) (cs : List (Str × Addr)) (fp : List Addr), PG (X.blk s H scope (compEnvC scope cs Ca X.env) fp) t (gTgt X.K tg)
  ht : ∀ (s : Shared) (H : Hp) (Ca : Addr) (cs : List (Str × Addr)) (fp : List Addr), PTs (X.blk s H scope (compEnvC scope cs Ca X.env) fp) ifs (tB cl c)
  he : ∀ (s : Shared) (H : Hp) (Ca : Addr) (cs : List (Str × Addr)) (fp : List Addr), PE (X.blk s H scope (compEnvC scope cs Ca X.env) fp) x (tE cl WN elt)
  fs : ∀ x, foldedSetIterable it X.env x = pure x
  own : ∀ i ∈ tgSlots tg, i ∈ own.map (·.2)
theorem lc_ok {X : Cx} {W : WX} {sc : Scope} {elt : E} {tg : Tg} {k : Src} {es c : E} {own : List (Str × Nat)} {x t it : Expr} {ifs : List Expr} {scope : Scope} {pos : Pos} (Se : Snd cl N elt) (Ss : Snd cl N es) (Sc : Snd cl N c) (C : CtxOk X W N sc) (hl : E.Lk (CallOk cl X) (GlbOk X) (.comp elt tg k es c own))
    {ia : Int} (h : ckE N (.comp elt tg k es c own) sc (.ListComp x [⟨t, it, ifs, ia⟩] scope pos) = true) : ia = 0 ∧ LcOk cl X W N elt tg k es c own x t it ifs scope := by
  have e : ckE N (.comp elt tg k es c own) sc (.ListComp x [⟨t, it, ifs, ia⟩] scope pos) = (decide (ia = 0) && blkC N sc scope own && ckTg N scope tg t && (tgSlots tg).all (fun i => (own.map (·.2)).contains i) && ckSrc N k es sc t it &&
    ckIfs N c (relS scope sc) ifs && ckE N elt (relS scope sc) x && (match relS scope sc |>.kind with | .function => true | _ => false)) := by
    conv => lhs; unfold ckE
    cases k <;> rfl
  rw [e] at h
  simp only [Bool.and_eq_true, decide_eq_true_eq] at h
  obtain ⟨⟨⟨⟨⟨⟨⟨h0, h1⟩, h2⟩, h3⟩, h4⟩, h5⟩, h6⟩, h7⟩ := h
  obtain ⟨l1, l2, l3⟩ := hl
  obtain ⟨pi, hf⟩ := src_of (b := false) Ss C l2 h4
  refine ⟨h0, pi, by rw [C.hN, C.hsc]; exact blkOk_by h1, fun s H Ca cs fp => pg_tgt (X := X.blk s H scope (compEnvC scope cs Ca X.env) fp) C.hN C.nd C.calm blk_fn h2, fun s H Ca cs fp => ?_, fun s H Ca cs fp => Se.pe (blk_ctx C) l1 h6, hf, fun i hi => ?_⟩
  · unfold ckIfs at h5
    split at h5
    · split at h5
      · exact pts_no
      · cases h5
    · simp only [Bool.and_eq_true] at h5
      exact pts_c (Sc.pt (blk_ctx C) l3 h5.1 h5.2) (by rintro rfl; simp [okT] at h5)
    · cases h5
  · have := (List.all_eq_true.mp h3) i hi
    simpa using this
theorem sE_comp {X : Cx} {W : WX} {sc : Scope} {elt : E} {tg : Tg} {k : Src} {es c : E} {own : List (Str × Nat)} {x t it : Expr} {ifs : List Expr} {scope : Scope} {pos : Pos} (C : CtxOk X W N sc) (L : LcOk cl X W N elt tg k es c own x t it ifs scope) :
    PE X (.ListComp x [⟨t, it, ifs, 0⟩] scope pos) (tE cl W (.comp elt tg k es c own)) :=
  ⟨fun pins s σ H Q I h => (pe_lc (pos := pos) C.calm (by rw [C.hN]; exact C.nd) L.pi L.ok L.hg L.ht L.he L.fs).run pins s σ H Q I (rd_comp L.own h)⟩
theorem noA {e : E} (h : ∀ sc xs, ckA N e sc xs = false) : SndA cl N e := fun _ _ k => by rw [h] at k; cases k
theorem noE {e : E} (h : ∀ sc x, ckE N e sc x = false) : SndE cl N e := fun _ _ k => by rw [h] at k; cases k
theorem snd : ∀ e : E, Snd cl N e := by
  intro e
  induction e with
  | no => exact ⟨noE fun _ _ => by simp [ckE], fun _ _ k => by simp [ckE] at k, fun {X W sc xs} C hl k => by
      cases xs with
      | nil => exact sA_nil
      | cons _ _ => simp [ckA] at k, fun _ _ z => by cases z⟩
  | cons e r ihe ihr => exact ⟨noE fun _ _ => by simp [ckE], fun _ _ k => by simp [ckE] at k, fun {X W sc xs} C hl k => by
      cases xs with
      | nil => simp [ckA] at k
      | cons x xs =>
        simp only [ckA, Bool.and_eq_true] at k
        exact sA_cons (ihe.pe C hl.1 k.1) (ihr.pa C hl.2 k.2) (star_of k.1 X.env), fun s q z => by cases z; exact ihe.pe⟩
  | frz a ih => exact ⟨fun C hl k => by simp only [ckE] at k; exact sE_frz (ih.pe C hl k), fun _ _ _ k => by simp [okT] at k, noA fun _ _ => by simp [ckA], fun _ _ z => by cases z⟩
  | var i => 
    have p : ∀ {X : Cx} {W : WX} {sc : Scope} {ast : Expr}, CtxOk X W N sc → ckE N (.var i) sc ast = true → PE X ast (tE cl W (.var i)) ∧ ∀ whole, isTrue ast X.env whole = (do let v ← whole; standAt ast.pos; holding [v] (truthy v)) := fun {X W sc ast} C k => by
      cases ast <;> simp only [ckE, Bool.false_eq_true] at k
      exact ⟨sE_var C (by simpa only [ckE] using k), fun _ => rfl⟩
    exact ⟨fun C _ k => (p C k).1, fun C _ k _ => sT_val (p C k).1 (p C k).2, noA fun _ _ => by simp [ckA], fun _ _ z => by cases z⟩
  | cst d =>
    have p : ∀ {X : Cx} {W : WX} {sc : Scope} {ast : Expr}, CtxOk X W N sc → ckE N (.cst d) sc ast = true → PE X ast (tE cl W (.cst d)) ∧ ∀ whole, isTrue ast X.env whole = (do let v ← whole; standAt ast.pos; holding [v] (truthy v)) := fun {X W sc ast} C k => by
      cases ast <;> simp only [ckE, Bool.false_eq_true] at k
      exact ⟨sE_cst k, fun _ => rfl⟩
    exact ⟨fun C _ k => (p C k).1, fun C _ k _ => sT_val (p C k).1 (p C k).2, noA fun _ _ => by simp [ckA], fun _ _ z => by cases z⟩
  | glb n d =>
    have p : ∀ {X : Cx} {W : WX} {sc : Scope} {ast : Expr}, CtxOk X W N sc → E.Lk (CallOk cl X) (GlbOk X) (.glb n d) → ckE N (.glb n d) sc ast = true → PE X ast (tE cl W (.glb n d)) ∧ ∀ whole, isTrue ast X.env whole = (do let v ← whole; standAt ast.pos; holding [v] (truthy v)) := fun {X W sc ast} C hl k => by
      cases ast <;> simp only [ckE, Bool.false_eq_true, Bool.and_eq_true, decide_eq_true_eq] at k
      obtain ⟨⟨rfl, k1⟩, k2⟩ := k
      exact ⟨sE_glb C k1 k2 hl, fun _ => rfl⟩
    exact ⟨fun C hl k => (p C hl k).1, fun C hl k _ => sT_val (p C hl k).1 (p C hl k).2, noA fun _ _ => by simp [ckA], fun _ _ z => by cases z⟩
  | bin op a b iha ihb =>
    have p : ∀ {X : Cx} {W : WX} {sc : Scope} {ast : Expr}, CtxOk X W N sc → E.Lk (CallOk cl X) (GlbOk X) (.bin op a b) → ckE N (.bin op a b) sc ast = true → PE X ast (tE cl W (.bin op a b)) ∧ ∀ whole, isTrue ast X.env whole = (do let v ← whole; standAt ast.pos; holding [v] (truthy v)) := fun {X W sc ast} C hl k => by
      cases ast <;> simp only [ckE, Bool.false_eq_true, Bool.and_eq_true, decide_eq_true_eq] at k
      obtain ⟨⟨rfl, k1⟩, k2⟩ := k
      exact ⟨sE_bin (iha.pe C hl.1 k1) (ihb.pe C hl.2 k2), fun _ => rfl⟩
    exact ⟨fun C hl k => (p C hl k).1, fun C hl k _ => sT_val (p C hl k).1 (p C hl k).2, noA fun _ _ => by simp [ckA], fun _ _ z => by cases z⟩
  | neg a ih =>
    have p : ∀ {X : Cx} {W : WX} {sc : Scope} {ast : Expr}, CtxOk X W N sc → E.Lk (CallOk cl X) (GlbOk X) (.neg a) → ckE N (.neg a) sc ast = true → PE X ast (tE cl W (.neg a)) ∧ ∀ whole, isTrue ast X.env whole = (do let v ← whole; standAt ast.pos; holding [v] (truthy v)) := fun {X W sc ast} C hl k => by
      cases ast <;> simp only [ckE, Bool.false_eq_true] at k
      rename_i op x pos
      cases op <;> simp only [Bool.false_eq_true] at k
      exact ⟨sE_neg (ih.pe C hl k), fun _ => rfl⟩
    exact ⟨fun C hl k => (p C hl k).1, fun C hl k _ => sT_val (p C hl k).1 (p C hl k).2, noA fun _ _ => by simp [ckA], fun _ _ z => by cases z⟩
  | not a ih =>
    refine ⟨fun {X W sc ast} C hl k => ?_, fun {X W sc ast} C hl k kt => ?_, noA fun _ _ => by simp [ckA], fun _ _ z => by cases z⟩
    · cases ast <;> simp only [ckE, Bool.false_eq_true] at k
      rename_i op x pos
      cases op <;> simp only [Bool.false_eq_true] at k
      exact sE_not (ih.pe C hl k)
    · cases ast <;> simp only [ckE, Bool.false_eq_true] at k
      rename_i op x pos
      cases op <;> simp only [Bool.false_eq_true] at k
      exact sT_not (ih.pt C hl k kt)
  | cmp op a b iha ihb =>
    have p : ∀ {X : Cx} {W : WX} {sc : Scope} {ast : Expr}, CtxOk X W N sc → E.Lk (CallOk cl X) (GlbOk X) (.cmp op a b) → ckE N (.cmp op a b) sc ast = true → PE X ast (tE cl W (.cmp op a b)) ∧ PT X ast (tT cl W (.cmp op a b)) := fun {X W sc ast} C hl k => by
      unfold ckE at k
      split at k
      · simp only [Bool.and_eq_true, decide_eq_true_eq, Bool.not_eq_true'] at k
        obtain ⟨⟨⟨rfl, k1⟩, k2⟩, k3⟩ := k
        exact ⟨sE_cmp C (iha.pe C hl.1 k1) (ihb.pe C hl.2 k2) k3, sT_cmp C (iha.pe C hl.1 k1) (ihb.pe C hl.2 k2) k3⟩
      · cases k
    exact ⟨fun C hl k => (p C hl k).1, fun C hl k _ => (p C hl k).2, noA fun _ _ => by simp [ckA], fun _ _ z => by cases z⟩
  | cmp2 op op' a b c iha ihb ihc =>
    have p : ∀ {X : Cx} {W : WX} {sc : Scope} {ast : Expr}, CtxOk X W N sc → E.Lk (CallOk cl X) (GlbOk X) (.cmp2 op op' a b c) → ckE N (.cmp2 op op' a b c) sc ast = true → PE X ast (tE cl W (.cmp2 op op' a b c)) ∧ PT X ast (tT cl W (.cmp2 op op' a b c)) := fun {X W sc ast} C hl k => by
      unfold ckE at k
      split at k
      · simp only [Bool.and_eq_true, decide_eq_true_eq, Bool.not_eq_true'] at k
        obtain ⟨⟨⟨⟨⟨⟨rfl, rfl⟩, k1⟩, k2⟩, k3⟩, k4⟩, k5⟩ := k
        exact ⟨sE_cmp2 C (iha.pe C hl.1 k1) (ihb.pe C hl.2.1 k2) (ihc.pe C hl.2.2 k3) k5, sT_cmp2 C (iha.pe C hl.1 k1) (ihb.pe C hl.2.1 k2) (ihc.pe C hl.2.2 k3) k5⟩
      · cases k
    exact ⟨fun C hl k => (p C hl k).1, fun C hl k _ => (p C hl k).2, noA fun _ _ => by simp [ckA], fun _ _ z => by cases z⟩
  | and a b iha ihb =>
    refine ⟨fun {X W sc ast} C hl k => ?_, fun {X W sc ast} C hl k kt => ?_, noA fun _ _ => by simp [ckA], fun _ _ z => by cases z⟩
    · unfold ckE at k
      split at k
      · rename_i x y rest pos
        simp only [Bool.and_eq_true] at k
        have hy : PE X (.BoolOp .And (y :: rest) pos) (tE cl W b) := by
          cases rest with
          | nil => exact pe_one (ihb.pe C hl.2 k.2)
          | cons z r => exact ihb.pe C hl.2 k.2
        exact sE_and2' (iha.pe C hl.1 k.1) hy
      · cases k
    · unfold ckE at k
      split at k
      · rename_i x y rest pos
        simp only [Bool.and_eq_true] at k
        simp only [okT, Bool.and_eq_true] at kt
        exact sT_and (iha.pt C hl.1 k.1 kt.1) (and_tail (fun e => by subst e; exact ihb.pt C hl.2 k.2 kt.2) fun e => by
          cases rest with
          | nil => exact absurd rfl e
          | cons z r => exact ihb.pt C hl.2 k.2 kt.2)
      · cases k
  | or a b iha ihb =>
    refine ⟨fun {X W sc ast} C hl k => ?_, fun {X W sc ast} C hl k kt => ?_, noA fun _ _ => by simp [ckA], fun _ _ z => by cases z⟩
    · unfold ckE at k
      split at k
      · rename_i x y rest pos
        simp only [Bool.and_eq_true] at k
        have hy : PE X (.BoolOp .Or (y :: rest) pos) (tE cl W b) := by
          cases rest with
          | nil => exact pe_one (ihb.pe C hl.2 k.2)
          | cons z r => exact ihb.pe C hl.2 k.2
        exact sE_or2 (iha.pe C hl.1 k.1) hy
      · cases k
    · unfold ckE at k
      split at k
      · rename_i x y rest pos
        simp only [Bool.and_eq_true] at k
        simp only [okT, Bool.and_eq_true] at kt
        exact sT_or (iha.pt C hl.1 k.1 kt.1) (or_tail (fun e => by subst e; exact ihb.pt C hl.2 k.2 kt.2) fun e => by
          cases rest with
          | nil => exact absurd rfl e
          | cons z r => exact ihb.pt C hl.2 k.2 kt.2)
      · cases k
  | ifx c a b ihc iha ihb =>
    refine ⟨fun {X W sc ast} C hl k => ?_, fun _ _ _ kt => by simp [okT] at kt, noA fun _ _ => by simp [ckA], fun _ _ z => by cases z⟩
    cases ast <;> simp only [ckE, Bool.false_eq_true, Bool.and_eq_true] at k
    obtain ⟨⟨⟨k1, k2⟩, k3⟩, k4⟩ := k
    exact sE_ifx (ihc.pt C hl.1 k1 k2) (iha.pe C hl.2.1 k3) (ihb.pe C hl.2.2 k4)
  | sub a i iha ihi =>
    have p : ∀ {X : Cx} {W : WX} {sc : Scope} {ast : Expr}, CtxOk X W N sc → E.Lk (CallOk cl X) (GlbOk X) (.sub a i) → ckE N (.sub a i) sc ast = true → PE X ast (tE cl W (.sub a i)) ∧ ∀ whole, isTrue ast X.env whole = (do let v ← whole; standAt ast.pos; holding [v] (truthy v)) := fun {X W sc ast} C hl k => by
      cases ast <;> simp only [ckE, Bool.false_eq_true, Bool.and_eq_true] at k
      exact ⟨sE_sub C (iha.pe C hl.1 k.1.1) (ihi.pe C hl.2 k.1.2) k.2, fun _ => rfl⟩
    exact ⟨fun C hl k => (p C hl k).1, fun C hl k _ => sT_val (p C hl k).1 (p C hl k).2, noA fun _ _ => by simp [ckA], fun _ _ z => by cases z⟩
  | slice a lo hi iha ihl ihh =>
    have p : ∀ {X : Cx} {W : WX} {sc : Scope} {ast : Expr}, CtxOk X W N sc → E.Lk (CallOk cl X) (GlbOk X) (.slice a lo hi) → ckE N (.slice a lo hi) sc ast = true → PE X ast (tE cl W (.slice a lo hi)) ∧ ∀ whole, isTrue ast X.env whole = (do let v ← whole; standAt ast.pos; holding [v] (truthy v)) := fun {X W sc ast} C hl k => by
      unfold ckE at k
      split at k
      · rename_i x l h p2 pos
        simp only [Bool.and_eq_true] at k
        obtain ⟨⟨k1, k2⟩, k3⟩ := k
        have q1 : PO X l (tP cl W lo) := by
          cases l with
          | none =>
            simp only at k2
            split at k2
            · exact sP_none
            · cases k2
          | some y => exact sP_some (ihl.pe C hl.2.1 k2) (by rintro rfl; simp [ckE] at k2)
        have q2 : PO X h (tP cl W hi) := by
          cases h with
          | none =>
            simp only at k3
            split at k3
            · exact sP_none
            · cases k3
          | some y => exact sP_some (ihh.pe C hl.2.2 k3) (by rintro rfl; simp [ckE] at k3)
        exact ⟨sE_slice (iha.pe C hl.1 k1) q1 q2, fun _ => rfl⟩
      · cases k
    exact ⟨fun C hl k => (p C hl k).1, fun C hl k _ => sT_val (p C hl k).1 (p C hl k).2, noA fun _ _ => by simp [ckA], fun _ _ z => by cases z⟩
  | rev b a ih =>
    have p : ∀ {X : Cx} {W : WX} {sc : Scope} {ast : Expr}, CtxOk X W N sc → E.Lk (CallOk cl X) (GlbOk X) (.rev b a) → ckE N (.rev b a) sc ast = true → PE X ast (tE cl W (.rev b a)) ∧ ∀ whole, isTrue ast X.env whole = (do let v ← whole; standAt ast.pos; holding [v] (truthy v)) := fun {X W sc ast} C hl k => by
      unfold ckE at k
      split at k
      · rename_i x h kk j1 p1 p2 p3 pos
        simp only [Bool.and_eq_true, decide_eq_true_eq] at k
        obtain ⟨⟨rfl, k2⟩, k3⟩ := k
        refine ⟨sE_rev (ih.pe C hl k2) ?_, fun _ => rfl⟩
        split at k3
        · cases b with
          | true => cases k3
          | false => exact .inl ⟨rfl, rfl⟩
        · simp only [Bool.and_eq_true, decide_eq_true_eq] at k3
          obtain ⟨rfl, rfl⟩ := k3
          exact .inr ⟨rfl, _, _, rfl⟩
        · cases k3
      · cases k
    exact ⟨fun C hl k => (p C hl k).1, fun C hl k _ => sT_val (p C hl k).1 (p C hl k).2, noA fun _ _ => by simp [ckA], fun _ _ z => by cases z⟩
  | tup es ih =>
    have p : ∀ {X : Cx} {W : WX} {sc : Scope} {ast : Expr}, CtxOk X W N sc → E.Lk (CallOk cl X) (GlbOk X) (.tup es) → ckE N (.tup es) sc ast = true → PE X ast (tE cl W (.tup es)) ∧ ∀ whole, isTrue ast X.env whole = (do let v ← whole; standAt ast.pos; holding [v] (truthy v)) := fun {X W sc ast} C hl k => by
      cases ast <;> simp only [ckE, Bool.false_eq_true, Bool.and_eq_true, decide_eq_true_eq] at k
      exact ⟨sE_tup (ih.pa C hl k.1) k.1 k.2, fun _ => rfl⟩
    exact ⟨fun C hl k => (p C hl k).1, fun C hl k _ => sT_val (p C hl k).1 (p C hl k).2, noA fun _ _ => by simp [ckA], fun _ _ z => by cases z⟩
  | lst es ih =>
    have p : ∀ {X : Cx} {W : WX} {sc : Scope} {ast : Expr}, CtxOk X W N sc → E.Lk (CallOk cl X) (GlbOk X) (.lst es) → ckE N (.lst es) sc ast = true → PE X ast (tE cl W (.lst es)) ∧ ∀ whole, isTrue ast X.env whole = (do let v ← whole; standAt ast.pos; holding [v] (truthy v)) := fun {X W sc ast} C hl k => by
      cases ast <;> simp only [ckE, Bool.false_eq_true, Bool.and_eq_true, decide_eq_true_eq] at k
      exact ⟨sE_lst (ih.pa C hl k.1) k.1 k.2, fun _ => rfl⟩
    exact ⟨fun C hl k => (p C hl k).1, fun C hl k _ => sT_val (p C hl k).1 (p C hl k).2, noA fun _ _ => by simp [ckA], fun _ _ z => by cases z⟩
  | dnew =>
    have p : ∀ {X : Cx} {W : WX} {sc : Scope} {ast : Expr}, CtxOk X W N sc → ckE N .dnew sc ast = true → PE X ast (tE cl W .dnew) ∧ ∀ whole, isTrue ast X.env whole = (do let v ← whole; standAt ast.pos; holding [v] (truthy v)) := fun {X W sc ast} C k => by
      unfold ckE at k
      split at k
      · exact ⟨sE_dnew, fun _ => rfl⟩
      · cases k
    exact ⟨fun C hl k => (p C k).1, fun C hl k _ => sT_val (p C k).1 (p C k).2, noA fun _ _ => by simp [ckA], fun _ _ z => by cases z⟩
  | call n f es ih =>
    have p : ∀ {X : Cx} {W : WX} {sc : Scope} {ast : Expr}, CtxOk X W N sc → E.Lk (CallOk cl X) (GlbOk X) (.call n f es) → ckE N (.call n f es) sc ast = true → PE X ast (tE cl W (.call n f es)) ∧ ∀ whole, isTrue ast X.env whole = (do let v ← whole; standAt ast.pos; holding [v] (truthy v)) := fun {X W sc ast} C hl k => by
      unfold ckE at k
      split at k
      · simp only [Bool.and_eq_true, decide_eq_true_eq] at k
        obtain ⟨⟨⟨rfl, k1⟩, k2⟩, k3⟩ := k
        exact ⟨sE_call C hl.1 k1 k2 (ih.pa C hl.2 k3) k3, fun _ => rfl⟩
      · cases k
    exact ⟨fun C hl k => (p C hl k).1, fun C hl k _ => sT_val (p C hl k).1 (p C hl k).2, noA fun _ _ => by simp [ckA], fun _ _ z => by cases z⟩
  | bi b es ih =>
    have p : ∀ {X : Cx} {W : WX} {sc : Scope} {ast : Expr}, CtxOk X W N sc → E.Lk (CallOk cl X) (GlbOk X) (.bi b es) → ckE N (.bi b es) sc ast = true → PE X ast (tE cl W (.bi b es)) ∧ ∀ whole, isTrue ast X.env whole = (do let v ← whole; standAt ast.pos; holding [v] (truthy v)) := fun {X W sc ast} C hl k => by
      unfold ckE at k
      split at k
      · simp only [Bool.and_eq_true, decide_eq_true_eq] at k
        obtain ⟨⟨rfl, k1⟩, k2⟩ := k
        exact ⟨sE_bi C rfl k1 (ih.pa C hl k2) k2, fun _ => rfl⟩
      · cases k
    exact ⟨fun C hl k => (p C hl k).1, fun C hl k _ => sT_val (p C hl k).1 (p C hl k).2, noA fun _ _ => by simp [ckA], fun _ _ z => by cases z⟩
  | isi a t ih =>
    have p : ∀ {X : Cx} {W : WX} {sc : Scope} {ast : Expr}, CtxOk X W N sc → E.Lk (CallOk cl X) (GlbOk X) (.isi a t) → ckE N (.isi a t) sc ast = true → PE X ast (tE cl W (.isi a t)) ∧ ∀ whole, isTrue ast X.env whole = (do let v ← whole; standAt ast.pos; holding [v] (truthy v)) := fun {X W sc ast} C hl k => by
      unfold ckE at k
      split at k
      · simp only [Bool.and_eq_true, decide_eq_true_eq] at k
        obtain ⟨⟨⟨⟨rfl, k1⟩, rfl⟩, k3⟩, k4⟩ := k
        exact ⟨sE_isi C (ih.pe C hl k4) rfl k1 rfl k3 (star_of k4 X.env), fun _ => rfl⟩
      · cases k
    exact ⟨fun C hl k => (p C hl k).1, fun C hl k _ => sT_val (p C hl k).1 (p C hl k).2, noA fun _ _ => by simp [ckA], fun _ _ z => by cases z⟩
  | mth m o es iho ihe =>
    have p : ∀ {X : Cx} {W : WX} {sc : Scope} {ast : Expr}, CtxOk X W N sc → E.Lk (CallOk cl X) (GlbOk X) (.mth m o es) → ckE N (.mth m o es) sc ast = true → PE X ast (tE cl W (.mth m o es)) ∧ ∀ whole, isTrue ast X.env whole = (do let v ← whole; standAt ast.pos; holding [v] (truthy v)) := fun {X W sc ast} C hl k => by
      unfold ckE at k
      split at k
      · simp only [Bool.and_eq_true, decide_eq_true_eq] at k
        obtain ⟨⟨⟨⟨⟨rfl, k1⟩, k2⟩, k3⟩, k4⟩, k5⟩ := k
        exact ⟨sE_mth C (iho.pe C hl.1 k1) rfl k5 (ihe.pa C hl.2 k2) k2 k3 k4, fun _ => rfl⟩
      · cases k
    exact ⟨fun C hl k => (p C hl k).1, fun C hl k _ => sT_val (p C hl k).1 (p C hl k).2, noA fun _ _ => by simp [ckA], fun _ _ z => by cases z⟩
  | comp elt tg k es c own ihe ihs ihc =>
    have p : ∀ {X : Cx} {W : WX} {sc : Scope} {ast : Expr}, CtxOk X W N sc → E.Lk (CallOk cl X) (GlbOk X) (.comp elt tg k es c own) → ckE N (.comp elt tg k es c own) sc ast = true → PE X ast (tE cl W (.comp elt tg k es c own)) ∧ ∀ whole, isTrue ast X.env whole = (do let v ← whole; standAt ast.pos; holding [v] (truthy v)) := fun {X W sc ast} C hl kk => by
      have kk' := kk
      unfold ckE at kk
      split at kk
      · obtain ⟨rfl, L⟩ := lc_ok ihe ihs ihc C hl kk'
        exact ⟨sE_comp C L, fun _ => rfl⟩
      · cases kk
    exact ⟨fun C hl k => (p C hl k).1, fun C hl k _ => sT_val (p C hl k).1 (p C hl k).2, noA fun _ _ => by simp [ckA], fun _ _ z => by cases z⟩
end
end VS

/-! VSt: statements. -/
namespace VS
open PySem PySem.Spec PyProof.Rows L2
structure CtxS (X : Cx) (W : WX) (N : List Str) (sc : Scope) : Prop extends CtxOk X W N sc where
  fn : ∀ x, X.fn x = true
  po : PassesOwn (model X.prog X.w) X.A X.env X.xe
section
variable {cl : Cl} {X : Cx} {W : WX} {N : List Str} {sc scope : Scope} {g g' : Gh} {ρ : Env} {m : Mem} {ls tmp fr : PL} {σ : L2.St} {H : Hp} {Q : VK} {a b c es e : E} {x y z tg iter : Expr} {xs : List Expr} {pos p p2 : Pos} {D : Ends} {fu : Nat}
def AftS (cl : Cl) (W : WX) (g : Gh) (tmp fr : PL) (D : Ends) : SO → Prop
  | .nx ρ m => ∀ σ g' ls H, g.le g' → Rel cl g' ρ m ls tmp fr σ H → D.nx σ H
  | .brk ρ m => ∀ σ g' ls H, g.le g' → Rel cl g' ρ m ls tmp fr σ H → D.bk σ H
  | .cnt ρ m => ∀ σ g' ls H, g.le g' → Rel cl g' ρ m ls tmp fr σ H → D.ct σ H
  | .ret r m => ∀ v g' H l, g.le g' → ResR g' r v l [] → (∃ lc, Cells cl g' m g'.as lc ∧ Good g'.B (l ++ (tmp ++ (lc ++ fr))) H) → D.rt v H
  | .exc c ρ m => ∃ C, cl c = some C ∧ ∀ σ g' ls H, g.le g' → Rel cl g' ρ m ls tmp fr σ H → W (.ref C) none σ H
  | .bad => False
def tS (cl : Cl) (W : WX) (fu : Nat) (s : S) : TS := fun D σ H => ∃ g ρ m ls tmp fr, Rel cl g ρ m ls tmp fr σ H ∧ AftS cl W g tmp fr D (ex fu s ρ m)
theorem PS.by {st : Stmt} {s : S} {t : TS} (base : PS X st t) (h : ∀ g ρ m ls tmp fr σ H D, Rel cl g ρ m ls tmp fr σ H → AftS cl W g tmp fr D (ex fu s ρ m) → t D σ H) : PS X st (tS cl W fu s) :=
  ⟨fun pins s σ H D I ⟨g, ρ, m, ls, tmp, fr, hR, ha⟩ => base.run pins s σ H D I (h g ρ m ls tmp fr σ H D hR ha)⟩
theorem AftS.le {so : SO} (le : g.le g') (h : AftS cl W g tmp fr D so) : AftS cl W g' tmp fr D so := by
  cases so with
  | nx ρ m => exact fun σ g2 ls H k => h σ g2 ls H (le.trans k)
  | brk ρ m => exact fun σ g2 ls H k => h σ g2 ls H (le.trans k)
  | cnt ρ m => exact fun σ g2 ls H k => h σ g2 ls H (le.trans k)
  | ret r m => exact fun v g2 H l k => h v g2 H l (le.trans k)
  | exc c ρ m =>
    obtain ⟨C, hc, q⟩ := h
    exact ⟨C, hc, fun σ g2 ls H k => q σ g2 ls H (le.trans k)⟩
  | bad => exact h
/-- an expression ahead of what follows -/
theorem AftS.so {α β : Type} {Rl : Gh → α → β → PL → PL → Prop} {x : Out α} {k : α → Mem → SO} {Q1 : β → Hp → Prop} (h : AftS cl W g tmp fr D (x.so ρ k))
    (hq : ∀ a m1 v g1 H1 l1, x = .ok a m1 → g.le g1 → Rl g1 a v l1 (ls ++ fr) → Rel cl g1 ρ m1 ls (l1 ++ tmp) fr σ H1 → AftS cl W g1 tmp fr D (k a m1) → Q1 v H1) : Aft cl W Rl g ρ ls tmp fr σ Q1 x := by
  cases x with
  | ok a m1 => exact fun v g1 H1 l1 le r R => hq a m1 v g1 H1 l1 rfl le r R (AftS.le le h)
  | exc c m1 =>
    obtain ⟨C, hc, q⟩ := h
    exact ⟨C, hc, fun g2 H' k' R => q σ g2 ls H' k' R⟩
  | bad => exact h
/-- as AftS.so, with a temporary held -/
theorem AftS.so2 {α β : Type} {l0 : PL} {Rl : Gh → α → β → PL → PL → Prop} {x : Out α} {k : α → Mem → SO} {Q1 : β → Hp → Prop} (h : AftS cl W g tmp fr D (x.so ρ k))
    (hq : ∀ a m1 v g1 H1 l1, x = .ok a m1 → g.le g1 → Rl g1 a v l1 (ls ++ fr) → Rel cl g1 ρ m1 ls (l1 ++ (l0 ++ tmp)) fr σ H1 → AftS cl W g1 tmp fr D (k a m1) → Q1 v H1) : Aft cl W Rl g ρ ls (l0 ++ tmp) fr σ Q1 x := by
  cases x with
  | ok a m1 => exact fun v g1 H1 l1 le r R => hq a m1 v g1 H1 l1 rfl le r R (AftS.le le h)
  | exc c m1 =>
    obtain ⟨C, hc, q⟩ := h
    exact ⟨C, hc, fun g2 H' k' R => q σ g2 ls H' k' R.drop⟩
  | bad => exact h
theorem tT_so {Q1 : Bool → Hp → Prop} {x : Out R} {A B : Mem → SO} (h : AftS cl W g tmp fr D (x.so ρ fun r m1 => match isTr r with | some true => A m1 | some false => B m1 | none => .bad))
    (hq : ∀ b m1 g1 H1, g.le g1 → Rel cl g1 ρ m1 ls tmp fr σ H1 → AftS cl W g1 tmp fr D (if b = true then A m1 else B m1) → Q1 b H1) :
    Aft cl W RlB g ρ ls tmp fr σ Q1 (x.bind fun r m1 => match isTr r with | some b => .ok (.p (.bl b)) m1 | none => .bad) := by
  cases x with
  | ok r m1 =>
    have h : AftS cl W g tmp fr D (match isTr r with | some true => A m1 | some false => B m1 | none => .bad) := h
    show Aft cl W RlB g ρ ls tmp fr σ Q1 (match isTr r with | some b => .ok (.p (.bl b)) m1 | none => .bad)
    cases e : isTr r with
    | none => rw [e] at h; exact h.elim
    | some b =>
      rw [e] at h
      rintro v g1 H1 l1 le ⟨r1, rfl⟩ R1
      cases r1
      refine hq b m1 g1 H1 le R1 (AftS.le le ?_)
      cases b <;> exact h
  | exc c m1 =>
    obtain ⟨C, hc, q⟩ := h
    exact ⟨C, hc, fun g2 H' k' R => q σ g2 ls H' k' R⟩
  | bad => exact h
theorem fnIs (C : CtxS X W N sc) : FnIs X sc := fun x h => ⟨C.toCtxOk.loc h, .inl (C.fn x)⟩
/-- a slot of a Rel written -/
theorem Rel.put {l1 : PL} {i : Nat} {r : R} {v : V} (R1 : Rel cl g ρ m ls (l1 ++ tmp) fr σ H) (hi : i < ρ.length) (res : ResR g r v l1 fr) : ∃ ls', Rel cl g (ρ.set i (some r)) m ls' tmp fr (σ.set i (some v)) H := by
  obtain ⟨s, lc, cc, G⟩ := R1
  obtain ⟨k1, k0, k2, q0, o0, rfl, _, _, _, f⟩ := s.set hi
  refine ⟨k1 ++ (l1 ++ k2), f g (some r) (some v) l1 (.refl g) ⟨v, rfl, res⟩, lc, cc, G.re (l0 := k0) fun f => ?_⟩
  simp only [List.map_append, List.sum_append_nat]
  omega
theorem setSO_put {i : Nat} {l1 : PL} {f : F} {v : V} (h : AftS cl W g tmp fr D (setSO ρ i (.v f) m)) (R1 : Rel cl g ρ m ls (l1 ++ tmp) fr σ H) (res : Own g f v l1) : D.nx (σ.set i (some v)) H := by
  unfold setSO setE at h
  split at h
  · rename_i ρ1 e
    split at e <;> cases e
    rename_i hi
    obtain ⟨ls', R2⟩ := R1.put (r := .v f) hi res
    exact h _ g ls' H (.refl g) R2
  · exact h.elim
def isComp : Expr → Bool
  | .ListComp _ _ _ _ => true
  | .SetComp _ _ _ _ => true
  | .DictComp _ _ _ _ _ => true
  | _ => false
theorem sw_no {e : Expr} (h : isComp e = false) (t : Option Expr) (l : Nat) (env : PySem.Env) : swapsWith e t l env = pure false := by
  cases e <;> first | rfl | simp [isComp] at h
theorem sw_other {e t : Expr} (h : ∀ x p, t ≠ .Name x p) (l : Nat) (env : PySem.Env) : swapsWith e (some t) l env = pure false := by
  cases e <;> cases t <;> first | rfl | exact absurd rfl (h _ _)
theorem s_expr (he : PE X x (tE cl W e)) (hs : isComp x = false) : PS X (.Expr x pos) (tS cl W fu (.expr e)) :=
  PS.by (ps_expr he (sw_no hs _ _ _)) fun g ρ m ls tmp fr σ H D hR h => ⟨g, ρ, m, ls, tmp, fr, hR, AftS.so h fun r m1 v g1 H1 l1 _ le1 res1 R1 h1 => h1 σ g1 ls H1 (.refl g1) R1.drop⟩
theorem s_pass : PS X (.Pass pos) (tS cl W fu .skip) := PS.by ps_pass fun g ρ m ls tmp fr σ H D hR h => h σ g ls H (.refl g) hR
theorem s_doc {j : Nat} {t : Str} : PS X (.Expr (.Constant (.str t) j p) pos) (tS cl W fu .skip) := PS.by ps_doc fun g ρ m ls tmp fr σ H D hR h => h σ g ls H (.refl g) hR
theorem s_brk : PS X (.Break pos) (tS cl W fu .brk) := PS.by ps_break fun g ρ m ls tmp fr σ H D hR h => h σ g ls H (.refl g) hR
theorem s_cnt : PS X (.Continue pos) (tS cl W fu .cnt) := PS.by ps_continue fun g ρ m ls tmp fr σ H D hR h => h σ g ls H (.refl g) hR
/-- what an assignment of e comes to -/
theorem rd_asg {i : Nat} (hR : Rel cl g ρ m ls tmp fr σ H) (h : AftS cl W g tmp fr D (ex fu (.asg i e) ρ m)) : tE cl W e σ H fun v H1 => gName i v σ H1 D.nx := by
  refine ⟨g, ρ, m, ls, tmp, fr, hR, AftS.so h fun r m1 v g1 H1 l1 _ le1 res1 R1 h1 => ?_⟩
  cases r with
  | w f => exact h1.elim
  | v f => exact setSO_put h1 R1 res1
theorem s_asg (C : CtxS X W N sc) {i : Nat} {n : Str} (hn : ckN N sc i (.Name n p) = true) (he : PE X x (tE cl W e)) (hs : swapsWith x (some (.Name n p)) pos.line X.env = pure false) : PS X (.Assign [.Name n p] x pos) (tS cl W fu (.asg i e)) := by
  obtain ⟨n', p', e', hi, hl⟩ := ckN_name hn
  cases e'
  exact PS.by (ps_set (by rw [C.hN]; exact C.nd) (by rw [C.hN]; exact hi) (C.toCtxOk.loc hl) he hs (.inl (C.fn n))) fun g ρ m ls tmp fr σ H D hR h => rd_asg hR h
theorem frz_rd {R0 : VK} (h : tE cl W (.frz a) σ H R0) : tE cl W a σ H R0 := by
  obtain ⟨g, ρ, m, ls, tmp, fr, hR, h⟩ := h
  refine ⟨g, ρ, m, ls, tmp, fr, hR, Aft.bind0 h fun q m1 v g1 H1 l1 e1 le1 res1 R1 h1 => ?_⟩
  cases q with
  | w f => exact h1.elim
  | v f =>
    obtain ⟨s, lc, c, G⟩ := R1
    rw [List.append_assoc] at G
    obtain ⟨g2, le2, as2, r2, G2⟩ := Own.cool f g1 v l1 _ H1 res1 G
    exact h1 v g2 H1 [] le2 (res_p r2) ⟨s.mono le2, lc, as2 ▸ c.mono le2, G2⟩
theorem s_asgT (C : CtxS X W N sc) {is : List Nat} {ts : List Expr} {k : Nat} (hn : ckNs N sc is ts = true) (he : PE X x (tE cl W e)) (ht : isTup x = false) : PS X (.Assign [.Tuple ts k p] x pos) (tS cl W fu (.asgT is e)) := by
  have hs : swapsWithSole [.Tuple ts k p] x pos.line X.env = pure false := sw_other (t := .Tuple ts k p) (fun _ _ => by simp) pos.line X.env
  have hw : swappedStores [.Tuple ts k p] x X.env = pure none := by cases x <;> first | rfl | simp [isTup] at ht
  refine PS.by (ps_asg he (pg_tgt (t := .tp is) C.hN C.nd C.calm (fnIs C) (show ckTg N sc (.tp is) (.Tuple ts k p) = true from hn)) hs hw) fun g ρ m ls tmp fr σ H D hR h => ⟨g, ρ, m, ls, tmp, fr, hR, AftS.so h fun r m1 v g1 H1 l1 _ le1 res1 R1 h1 => ?_⟩
  cases r with
  | w f => exact h1.elim
  | v f =>
    dsimp only at h1
    split at h1
    · rename_i ds ed
      split at h1
      · rename_i ρ1 e1
        have ef : f = .d (.tup ds) := by
          unfold F.isT at ed
          split at ed <;> cases ed
          rfl
        subst ef
        obtain ⟨s, lc, cc, G⟩ := R1
        obtain ⟨σ1, ls1, l0, hQ, s1, p1, _, _⟩ := tgt_ok (K := X.K) (t := .tp is) (d := .tup ds) e1 (res_rep res1 rfl) s G
        refine hQ _ (h1 σ1 g1 ls1 H1 (.refl g1) ⟨s1, lc, cc, G.re (l0 := l1 ++ l0) fun f => ?_⟩)
        have := Perm.sums p1 f
        simp only [List.map_append, List.sum_append_nat] at this ⊢
        omega
      · exact h1.elim
    · exact h1.elim
theorem s_ifs {s t : S} {xa xb : List Stmt} (hc : PT X x (tT cl W c)) (ha : PSs X xa (tS cl W fu s)) (hb : PSs X xb (tS cl W fu t)) : PS X (.If x xa xb pos) (tS cl W fu (.ifs c s t)) :=
  PS.by (ps_if hc ha hb) fun g ρ m ls tmp fr σ H D hR h => ⟨g, ρ, m, ls, tmp, fr, hR, tT_so h fun b m1 g1 H1 le1 R1 h1 => by
    cases b with
    | true => exact ⟨g1, ρ, m1, ls, tmp, fr, R1, h1⟩
    | false => exact ⟨g1, ρ, m1, ls, tmp, fr, R1, h1⟩⟩
theorem s_ret (he : PE X x (tE cl W e)) : PS X (.Return (some x) pos) (tS cl W fu (.ret e)) :=
  PS.by (ps_ret he) fun g ρ m ls tmp fr σ H D hR h => ⟨g, ρ, m, ls, tmp, fr, hR, AftS.so h fun r m1 v g1 H1 l1 _ le1 res1 R1 h1 => by
    cases r with
    | w f => exact h1.elim
    | v f =>
      obtain ⟨s, lc, cc, G⟩ := R1
      refine h1 v g1 H1 l1 (.refl g1) res1 ⟨lc, cc, G.re (l0 := ls) fun f => ?_⟩
      simp only [List.map_append, List.sum_append_nat]
      omega⟩
theorem s_ret0 : PS X (.Return none pos) (tS cl W fu .ret0) :=
  PS.by ps_retN fun g ρ m ls tmp fr σ H D hR h => by
    obtain ⟨s, lc, cc, G⟩ := hR
    refine h .non g H [] (.refl g) (res_p (by simp only [Rep])) ⟨lc, cc, G.re (l0 := ls) fun f => ?_⟩
    simp only [List.map_append, List.sum_append_nat, List.map_nil, List.sum_nil]
    omega
theorem set_same {σ : L2.St} {i : Nat} {o : Option V} (h : σ[i]? = some o) : σ.set i o = σ := by
  refine List.ext_getElem? fun j => ?_
  by_cases e : i = j
  · subst e
    obtain ⟨hl, _⟩ := List.getElem?_eq_some_iff.mp h
    rw [List.getElem?_set_self hl, h]
  · rw [List.getElem?_set_ne e]
/-- a slot emptied: what it held is a temporary -/
theorem Rel.take {i : Nat} {f : F} (R1 : Rel cl g ρ m ls tmp fr σ H) (e : ρ[i]? = some (some (.v f))) : ∃ v l1 ls', σ[i]? = some (some v) ∧ Own g f v l1 ∧ Rel cl g (ρ.set i none) m ls' (l1 ++ tmp) fr σ H := by
  obtain ⟨s, lc, cc, G⟩ := R1
  obtain ⟨hi, _⟩ := List.getElem?_eq_some_iff.mp e
  obtain ⟨k1, k0, k2, q0, o0, rfl, e1, e2, s0, f'⟩ := s.set hi
  rw [e] at e1
  cases e1
  obtain ⟨v, rfl, res⟩ := s0
  have s2 := f' g none (some v) [] (.refl g) rfl
  rw [set_same e2] at s2
  refine ⟨v, k0, k1 ++ ([] ++ k2), e2, res, s2, lc, cc, G.re (l0 := []) fun f => ?_⟩
  simp only [List.map_append, List.sum_append_nat, List.map_nil, List.sum_nil]
  omega
theorem s_retv (C : CtxS X W N sc) {i : Nat} {n : Str} (hi : N[i]? = some n) (hv : visB sc n = true) (hn : okName n = true) : PS X (.Return (some (.Name n p)) pos) (tS cl W fu (.retv i)) := by
  obtain ⟨d1, d2, _⟩ := CtxOk.dn hn
  refine PS.by (ps_ret (pe_var (i := i) (by rw [C.hN]; exact hi) (C.toCtxOk.vis hv) d1 d2)) fun g ρ m ls tmp fr σ H D hR h => ?_
  simp only [ex] at h
  split at h
  · rename_i f e
    obtain ⟨v, l1, ls', e2, res, s, lc, cc, G⟩ := hR.take e
    refine ⟨v, e2, h v g H l1 (.refl g) res ⟨lc, cc, G.re (l0 := ls') fun f => ?_⟩⟩
    simp only [List.map_append, List.sum_append_nat]
    omega
  · exact h.elim
theorem s_asgv (C : CtxS X W N sc) {i j : Nat} {n n2 : Str} (hn : ckN N sc i (.Name n p) = true) (hj : N[j]? = some n2) (hv : visB sc n2 = true) (hn2 : okName n2 = true) : PS X (.Assign [.Name n p] (.Name n2 p2) pos) (tS cl W fu (.asgv i j)) := by
  obtain ⟨n', p', e', hi, hl⟩ := ckN_name hn
  cases e'
  obtain ⟨d1, d2, _⟩ := CtxOk.dn hn2
  refine PS.by (ps_set (by rw [C.hN]; exact C.nd) (by rw [C.hN]; exact hi) (C.toCtxOk.loc hl) (pe_var (i := j) (by rw [C.hN]; exact hj) (C.toCtxOk.vis hv) d1 d2) rfl (.inl (C.fn n))) fun g ρ m ls tmp fr σ H D hR h => ?_
  simp only [ex] at h
  split at h
  · rename_i f e
    obtain ⟨v, l1, ls', e2, res, R1⟩ := hR.take e
    exact ⟨v, e2, setSO_put h R1 res⟩
  · exact h.elim
def LoopP (cl : Cl) (X : Cx) (W : WX) (fu : Nat) (tgt : Tg) (body : S) (D : Ends) (σ : L2.St) (J : It) (H1 : Hp) : Prop :=
    ∃ Wv : Nat → Nat → L2.St → Hp → Prop, (∃ m, Wv 0 m σ H1) ∧ ∀ i m σ H, Wv i m σ H →
      (J.stop i H ∧ D.nx σ H) ∨ (J.go i H ∧ ∃ Nx : L2.St → Hp → Prop, (∀ σ' H', Nx σ' H' → ∃ m', m' < m ∧ Wv (i + 1) m' σ' H') ∧ ∀ x H', J.yld i H x H' → gTgt X.K tgt x σ H' fun σ2 H2 => tS cl W fu body { D with nx := Nx, ct := Nx, bk := D.nx } σ2 H2)
/-- the loop: what is walked lies at l1 -/
theorem loop_ok {tgt : Tg} {body : S} {J : It} {ds : List VS.D} {L l1 : PL} {g1 : Gh} {H1 : Hp} (it : ItOk g1 J ds L) (hL : ∀ p ∈ L, p ∈ l1 ++ fr) (R1 : Rel cl g1 ρ m ls (l1 ++ tmp) fr σ H1) (h : AftS cl W g1 tmp fr D (forL (ex fu body) tgt ds ρ m)) :
    LoopP cl X W fu tgt body D σ J H1 := by
  refine ⟨fun i k σ H => k = ds.length - i ∧ i ≤ ds.length ∧ ∃ g2 ρ m ls, g1.le g2 ∧ Rel cl g2 ρ m ls (l1 ++ tmp) fr σ H ∧ AftS cl W g1 tmp fr D (forL (ex fu body) tgt (ds.drop i) ρ m), ⟨ds.length, by simp, Nat.zero_le _, g1, ρ, m, ls, .refl g1, R1, by simpa using h⟩, ?_⟩
  rintro i k σ2 H2 ⟨rfl, hi, g2, ρ2, m2, ls2, le2, ⟨s2, lc2, cc2, G2⟩, h2⟩
  have hLP : ∀ p ∈ L, p ∈ ((l1 ++ tmp) ++ (ls2 ++ (lc2 ++ fr)) : PL) := fun p hp => by
    have := hL p hp
    simp only [List.mem_append] at this ⊢
    rcases this with q | q
    · exact .inl (.inl q)
    · exact .inr (.inr (.inr q))
  by_cases hlt : i < ds.length
  · obtain ⟨hgo, hyl⟩ := (it g2 _ H2 i le2 G2 hLP).1 ds[i] (by simp [hlt])
    have dr : ds.drop i = ds[i] :: ds.drop (i + 1) := List.drop_eq_getElem_cons hlt
    rw [dr] at h2
    unfold forL at h2
    refine .inr ⟨hgo, fun σ3 H3 => ∃ g3 ρ m ls, g1.le g3 ∧ Rel cl g3 ρ m ls (l1 ++ tmp) fr σ3 H3 ∧ AftS cl W g1 tmp fr D (forL (ex fu body) tgt (ds.drop (i + 1)) ρ m),
      fun σ' H' q => ⟨ds.length - (i + 1), by omega, rfl, hlt, q⟩, fun v H3 y3 => ?_⟩
    obtain ⟨g3, le3, as3, G3, rep3⟩ := hyl v H3 y3
    cases et : setTg tgt ds[i] ρ2 with
    | none => rw [et] at h2; exact h2.elim
    | some ρ1 =>
      rw [et] at h2
      replace h2 : AftS cl W g1 tmp fr D (match ex fu body ρ1 m2 with | .nx ρ2 m2 => forL (ex fu body) tgt (ds.drop (i + 1)) ρ2 m2 | .cnt ρ2 m2 => forL (ex fu body) tgt (ds.drop (i + 1)) ρ2 m2 | .brk ρ2 m2 => .nx ρ2 m2 | o => o) := h2
      obtain ⟨σ1, ls1', l0, hQ, s1, p1, len1, out1⟩ := tgt_ok (K := X.K) et rep3 (s2.mono le3) G3
      refine hQ _ ⟨g3, ρ1, m2, ls1', l1 ++ tmp, fr, ⟨s1, lc2, as3 ▸ cc2.mono le3, G3.re (l0 := l0) fun f => ?_⟩, ?_⟩
      · have := Perm.sums p1 f
        simp only [List.map_append, List.sum_append_nat] at this ⊢
        omega
      have le13 := le2.trans le3
      cases eb : ex fu body ρ1 m2 with
      | nx ρ4 m4 =>
        rw [eb] at h2
        exact fun σ4 g4 ls4 H4 le4 R4 => ⟨g4, ρ4, m4, ls4, le13.trans le4, R4, h2⟩
      | cnt ρ4 m4 =>
        rw [eb] at h2
        exact fun σ4 g4 ls4 H4 le4 R4 => ⟨g4, ρ4, m4, ls4, le13.trans le4, R4, h2⟩
      | brk ρ4 m4 =>
        rw [eb] at h2
        exact fun σ4 g4 ls4 H4 le4 R4 => h2 σ4 g4 ls4 H4 (le13.trans le4) R4.drop
      | ret r m4 =>
        rw [eb] at h2
        rintro v4 g4 H4 l4 le4 res4 ⟨lc4, cc4, G4⟩
        refine h2 v4 g4 H4 l4 (le13.trans le4) res4 ⟨lc4, cc4, G4.re (l0 := l1) fun f => ?_⟩
        simp only [List.map_append, List.sum_append_nat]
        omega
      | exc c ρ4 m4 =>
        rw [eb] at h2
        obtain ⟨C, hC, q⟩ := h2
        exact ⟨C, hC, fun σ4 g4 ls4 H4 le4 R4 => q σ4 g4 ls4 H4 (le13.trans le4) R4.drop⟩
      | bad => rw [eb] at h2; exact h2.elim
  · have hi' : i = ds.length := by omega
    subst hi'
    rw [List.drop_length] at h2
    refine .inl ⟨(it g2 _ H2 ds.length le2 G2 hLP).2 (Nat.le_refl _), h2 σ2 g2 ls2 H2 le2 (Rel.drop ⟨s2, lc2, cc2, G2⟩)⟩
theorem s_for (C : CtxS X W N sc) {tgt : Tg} {k : Src} {body : S} {t it : Expr} {sb : List Stmt} (ht : ckTg N sc tgt t = true) (hi : PI X t it (tI cl W true k es)) (hf : ∀ x, foldedSetIterable it X.env x = pure x) (hb : PSs X sb (tS cl W fu body)) : PS X (.For t it sb [] pos) (tS cl W fu (.for tgt k es body)) :=
  PS.by (ps_for C.po C.calm hi (pg_tgt C.hN C.nd C.calm (fnIs C) ht) hb hf) fun g ρ m ls tmp fr σ H D hR h => ⟨g, ρ, m, ls, tmp, fr, hR, AftS.so h fun ds m1 J g1 H1 l1 _ le1 ⟨L, it, hL⟩ R1 h1 => loop_ok it (fun p hp => by
    rcases hL p hp with q | ⟨q, _⟩
    · exact List.mem_append_left _ q
    · cases q) R1 h1⟩
theorem s_forw (C : CtxS X W N sc) {tgt : Tg} {i : Nat} {n : Str} {body : S} {t : Expr} {sb : List Stmt} (ht : ckTg N sc tgt t = true) (hi : N[i]? = some n) (hv : visB sc n = true) (hn : okName n = true) (hb : PSs X sb (tS cl W fu body)) : PS X (.For t (.Name n p) sb [] pos) (tS cl W fu (.forw tgt i body)) := by
  obtain ⟨d1, d2, _⟩ := CtxOk.dn hn
  refine PS.by (ps_for C.po C.calm (pi_any (pe_var (i := i) (pos := p) (by rw [C.hN]; exact hi) (C.toCtxOk.vis hv) d1 d2)) (pg_tgt C.hN C.nd C.calm (fnIs C) ht) hb (fun _ => rfl)) fun g ρ m ls tmp fr σ H D hR h => ?_
  simp only [ex] at h
  split at h
  · rename_i f e
    split at h
    · rename_i ds ed
      obtain ⟨v, l', e1, res, hl⟩ := slots_get hR.slots e
      obtain ⟨q1, l2, q2, q3⟩ := res
      have key : ∀ J, RlJ false g ds J [] fr → LoopP cl X W fu tgt body D σ J H := fun J ⟨L, it, hL⟩ => loop_ok (X := X) (l1 := []) (J := J) (L := L) it (fun p hp => by
        rcases hL p hp with q | ⟨_, q⟩
        · cases q
        · exact q) hR h
      exact ⟨v, e1, rel_mem (l := []) hR fun P G _ hP => any_end (K := X.K) (R0 := LoopP cl X W fu tgt body D σ) (b := false) (Pv := fr) (show ResR g (.w f) v [] fr from ⟨rfl, l2, q2, q3⟩) (fun z => by cases z) ed G (fun p hp => by cases hp) (fun p hp => hP p (List.mem_append_right _ hp)) key⟩
    · exact h.elim
  · exact h.elim
theorem s_while (C : CtxS X W N sc) {body : S} {sb : List Stmt} (hc : PT X x (tT cl W c)) (hb : PSs X sb (tS cl W fu body)) : PS X (.While x sb [] pos) (tS cl W fu (.while c body)) := by
  refine PS.by (ps_while C.po hc hb) fun g ρ m ls tmp fr σ H D hR h => ?_
  refine ⟨fun k σ H => ∃ g2 ρ m ls, Rel cl g2 ρ m ls tmp fr σ H ∧ AftS cl W g2 tmp fr D (whileL (ev c) (ex fu body) k ρ m), ⟨fu, g, ρ, m, ls, hR, h⟩, ?_⟩
  rintro k σ2 H2 ⟨g2, ρ2, m2, ls2, R2, h2⟩
  cases k with
  | zero => exact h2.elim
  | succ k =>
    unfold whileL at h2
    have h3 : AftS cl W g2 tmp fr D ((ev c ρ2 m2).so ρ2 fun r m1 => match isTr r with
      | some true => (match ex fu body ρ2 m1 with | .nx ρ2 m2 => whileL (ev c) (ex fu body) k ρ2 m2 | .cnt ρ2 m2 => whileL (ev c) (ex fu body) k ρ2 m2 | .brk ρ2 m2 => .nx ρ2 m2 | o => o)
      | some false => .nx ρ2 m1
      | none => .bad) := by
      cases e : ev c ρ2 m2 with
      | bad => rw [e] at h2; exact h2
      | exc k' m' => rw [e] at h2; exact h2
      | ok r m1 =>
        rw [e] at h2
        show AftS cl W g2 tmp fr D (match isTr r with
          | some true => (match ex fu body ρ2 m1 with | .nx ρ2 m2 => whileL (ev c) (ex fu body) k ρ2 m2 | .cnt ρ2 m2 => whileL (ev c) (ex fu body) k ρ2 m2 | .brk ρ2 m2 => .nx ρ2 m2 | o => o)
          | some false => .nx ρ2 m1
          | none => .bad)
        dsimp only at h2
        cases e2 : isTr r with
        | none => rw [e2] at h2; exact h2
        | some b => rw [e2] at h2; cases b <;> exact h2
    refine ⟨g2, ρ2, m2, ls2, tmp, fr, R2, tT_so h3 fun b m1 g3 H3 le3 R3 h4 => ?_⟩
    cases b with
    | false =>
      rw [if_neg Bool.false_ne_true] at h4 ⊢
      exact h4 σ2 g3 ls2 H3 (.refl g3) R3
    | true =>
      rw [if_pos rfl] at h4 ⊢
      refine ⟨fun σ H => ∃ g2 ρ m ls, Rel cl g2 ρ m ls tmp fr σ H ∧ AftS cl W g2 tmp fr D (whileL (ev c) (ex fu body) k ρ m), fun σ' H' q => ⟨k, Nat.lt_succ_self k, q⟩, g3, ρ2, m1, ls2, tmp, fr, R3, ?_⟩
      cases eb : ex fu body ρ2 m1 with
      | nx ρ4 m4 => rw [eb] at h4; exact fun σ4 g4 ls4 H4 le4 R4 => ⟨g4, ρ4, m4, ls4, R4, AftS.le le4 h4⟩
      | cnt ρ4 m4 => rw [eb] at h4; exact fun σ4 g4 ls4 H4 le4 R4 => ⟨g4, ρ4, m4, ls4, R4, AftS.le le4 h4⟩
      | brk ρ4 m4 => rw [eb] at h4; exact h4
      | ret r m4 => rw [eb] at h4; exact h4
      | exc c ρ4 m4 => rw [eb] at h4; exact h4
      | bad => rw [eb] at h4; exact h4.elim
end
end VS

/-! VSu: statements that change a list or a dict; raise. -/
namespace VS
open PySem PySem.Spec PyProof.Rows L2
/-! ### keys are told once -/
def put1 {κ : Type} [DecidableEq κ] (kvs : List (κ × V)) (k : κ) (v : V) : List (κ × V) := match kvs with
  | [] => [(k, v)]
  | (j, z) :: r => if j = k then (j, v) :: r else (j, z) :: put1 r k v
section
variable {κ : Type} [DecidableEq κ]
theorem map_same {k : κ} {v : V} : ∀ {r : List (κ × V)}, k ∉ r.map (·.1) → r.map (fun kv => if kv.1 = k then (kv.1, v) else kv) = r
  | [], _ => rfl
  | (j, z) :: r, h => by
    simp only [List.map_cons, List.mem_cons, not_or] at h
    simp only [List.map_cons]
    rw [if_neg (fun e => h.1 e.symm), map_same h.2]
theorem put1_eq {k : κ} {v : V} : ∀ {kvs : List (κ × V)}, (kvs.map (·.1)).Nodup → putK kvs k v = put1 kvs k v
  | [], _ => rfl
  | (j, z) :: r, h => by
    rw [List.map_cons, List.nodup_cons] at h
    have ih := put1_eq (k := k) (v := v) h.2
    unfold put1
    by_cases e : j = k
    · subst e
      rw [if_pos rfl]
      unfold putK
      simp only [List.any_cons, decide_true, Bool.true_or, if_true, List.map_cons]
      rw [map_same h.1]
    · rw [if_neg e, ← ih]
      unfold putK
      simp only [List.any_cons, e, decide_false, Bool.false_or, List.map_cons, if_false]
      split <;> simp
end
theorem kv_keys {κ : Type} {kvs : List (κ × V)} {vs : List (κ × Value)} (h : KV kvs vs) : kvs.map (·.1) = vs.map (·.1) := by
  induction h with
  | nil => rfl
  | cons a b ih => rw [List.map_cons, List.map_cons, ih, a.1]
theorem dK_nodup {P : Program} {w : World} {H : Hp} {h : Heap} {a : Addr} {kvs : List (Key × V)} (x : ObjOk P w H h a (.dK kvs)) : (kvs.map (·.1)).Nodup := by
  obtain ⟨_, _, vs, r, o, es, ep, _, _, _, _, _, nd⟩ := x
  rw [kv_keys r]
  exact nd
theorem pair_keys {κ α : Type} {R : κ × V → κ × α → Prop} (hR : ∀ p q, R p q → p.1 = q.1) {kvs : List (κ × V)} {xs : List (κ × α)} (h : Paired R kvs xs) : kvs.map (·.1) = xs.map (·.1) := by
  induction h with
  | nil => rfl
  | cons a b ih => rw [List.map_cons, List.map_cons, ih, hR _ _ a]
theorem dT_nodup {P : Program} {w : World} {H : Hp} {h : Heap} {a : Addr} {kvs : List (List Key × V)} (x : ObjOk P w H h a (.dT kvs)) : (kvs.map (·.1)).Nodup := by
  obtain ⟨_, _, xs, r, o, es, ep, _, _, _, _, nd⟩ := x
  have e : kvs.map (·.1) = xs.map (·.1) := pair_keys (fun p q h => h.1) r
  rw [e]
  exact nd
def rPut1 : TSet := fun o i v H Q => ∃ a, o = .ref a ∧
  ((∃ kvs k, H a = some (.dK kvs) ∧ i = kV k ∧ kvs.length < sizeLine ∧ Q (upd H a (.dK (put1 kvs k v)))) ∨
   (∃ kvs k b, H a = some (.dT kvs) ∧ i = .ref b ∧ H b = some (.tup (k.map kV)) ∧ kvs.length < sizeLine ∧ Q (upd H a (.dT (put1 kvs k v)))) ∨
   (∃ k b, H a = some (.dK []) ∧ i = .ref b ∧ H b = some (.tup (k.map kV)) ∧ Q (upd H a (.dT [(k, v)]))) ∨
   (∃ k, H a = some (.dT []) ∧ i = kV k ∧ Q (upd H a (.dK [(k, v)]))))
theorem size_pos : 0 < sizeLine := by rw [← sizeB_eq]; decide
theorem set_put1 {X : Cx} (hu : X.A.units + 1 < cLine) : PSet X rPut1 := by
  intro pins s σ H o i v ov iv u Q I ro ri rv ⟨a, eo, q⟩
  rcases q with ⟨kvs, k, e, ei, hl, q⟩ | ⟨kvs, k, b, e, ei, eb, hl, q⟩ | ⟨k, b, e, ei, eb, q⟩ | ⟨k, e, ei, q⟩
  · rw [← put1_eq (dK_nodup (I.hok a _ e))] at q
    exact set_dict hu pins s σ H o i v ov iv u Q I ro ri rv ⟨a, _, eo, .inl ⟨kvs, k, e, ei, hl, rfl⟩, q⟩
  · rw [← put1_eq (dT_nodup (I.hok a _ e))] at q
    exact set_dict hu pins s σ H o i v ov iv u Q I ro ri rv ⟨a, _, eo, .inr ⟨kvs, k, b, e, ei, eb, hl, rfl⟩, q⟩
  · have hb : b ≠ a := fun z => by subst z; rw [e] at eb; cases eb
    have I2 := swapKT I e
    refine set_dict hu pins s σ _ o i v ov iv u Q I2 ro ri rv ⟨a, _, eo, .inr ⟨[], k, b, upd_same, ei, by rw [upd_ne hb]; exact eb, size_pos, rfl⟩, ?_⟩
    rw [upd_upd]
    exact q
  · have I2 := swapTK I e
    refine set_dict hu pins s σ _ o i v ov iv u Q I2 ro ri rv ⟨a, _, eo, .inl ⟨[], k, upd_same, ei, size_pos, rfl⟩, ?_⟩
    rw [upd_upd]
    exact q
section
variable {cl : Cl} {X : Cx} {W : WX} {N : List Str} {sc scope : Scope} {g g' : Gh} {ρ : Env} {m : Mem} {ls tmp fr : PL} {σ : L2.St} {H : Hp} {Q : VK} {a b c es e : E} {x y z tg iter : Expr} {xs : List Expr} {pos p p2 : Pos} {D : Ends} {fu : Nat}
theorem own_putK {j : Key} {f : F} {v : V} {lf : PL} (hf : Own g f v lf) : ∀ {kfs : List (VS.D × F)} {es : List (Key × V)} {l : PL}, OwnK g kfs es l → ∃ l0 l' : PL, OwnK g (VS.put kfs (kD j) f) (put1 es j v) l' ∧ ∀ q : Addr × HO → Nat, (l.map q).sum + (lf.map q).sum = (l0.map q).sum + (l'.map q).sum
  | [], es, l, h => by
    simp only [OwnK] at h
    obtain ⟨rfl, rfl⟩ := h
    refine ⟨[], lf, ?_, fun q => by simp⟩
    simp only [VS.put, put1, OwnK]
    exact ⟨j, v, [], lf, [], rfl, by simp, rfl, hf, rfl, rfl⟩
  | (k, f0) :: r, es, l, h => by
    simp only [OwnK] at h
    obtain ⟨i, y, t, l1, l2, rfl, rfl, rfl, q1, q2⟩ := h
    unfold VS.put put1
    by_cases e : i = j
    · subst e
      rw [if_pos rfl, if_pos rfl]
      refine ⟨l1, lf ++ l2, ?_, fun q => by simp only [List.map_append, List.sum_append_nat]; omega⟩
      simp only [OwnK]
      exact ⟨i, v, t, lf, l2, rfl, rfl, rfl, hf, q2⟩
    · rw [if_neg e, if_neg (fun z => e (kD_inj z))]
      obtain ⟨l0, l', h1, h2⟩ := own_putK hf q2
      refine ⟨l0, l1 ++ l', ?_, fun q => by have := h2 q; simp only [List.map_append, List.sum_append_nat]; omega⟩
      simp only [OwnK]
      exact ⟨i, y, put1 t j v, l1, l', rfl, rfl, rfl, q1, h1⟩
theorem own_putT {j : List Key} {f : F} {v : V} {lf : PL} (hf : Own g f v lf) : ∀ {kfs : List (VS.D × F)} {es : List (List Key × V)} {l : PL}, OwnT g kfs es l → ∃ l0 l' : PL, OwnT g (VS.put kfs (tD j) f) (put1 es j v) l' ∧ ∀ q : Addr × HO → Nat, (l.map q).sum + (lf.map q).sum = (l0.map q).sum + (l'.map q).sum
  | [], es, l, h => by
    simp only [OwnT] at h
    obtain ⟨rfl, rfl⟩ := h
    refine ⟨[], lf, ?_, fun q => by simp⟩
    simp only [VS.put, put1, OwnT]
    exact ⟨j, v, [], lf, [], rfl, by simp, rfl, hf, rfl, rfl⟩
  | (k, f0) :: r, es, l, h => by
    simp only [OwnT] at h
    obtain ⟨i, y, t, l1, l2, rfl, rfl, rfl, q1, q2⟩ := h
    unfold VS.put put1
    by_cases e : i = j
    · subst e
      rw [if_pos rfl, if_pos rfl]
      refine ⟨l1, lf ++ l2, ?_, fun q => by simp only [List.map_append, List.sum_append_nat]; omega⟩
      simp only [OwnT]
      exact ⟨i, v, t, lf, l2, rfl, rfl, rfl, hf, q2⟩
    · rw [if_neg e, if_neg (fun z => e (tD_inj z))]
      obtain ⟨l0, l', h1, h2⟩ := own_putT hf q2
      refine ⟨l0, l1 ++ l', ?_, fun q => by have := h2 q; simp only [List.map_append, List.sum_append_nat]; omega⟩
      simp only [OwnT]
      exact ⟨i, y, put1 t j v, l1, l', rfl, rfl, rfl, q1, h1⟩
theorem ownK_len : ∀ {kfs : List (VS.D × F)} {es : List (Key × V)} {l : PL}, OwnK g kfs es l → es.length = kfs.length
  | [], es, l, h => by simp only [OwnK] at h; rw [h.1]; rfl
  | (k, f) :: r, es, l, h => by
    simp only [OwnK] at h
    obtain ⟨i, y, t, l1, l2, rfl, _, _, _, q2⟩ := h
    simp [ownK_len q2]
theorem ownT_len : ∀ {kfs : List (VS.D × F)} {es : List (List Key × V)} {l : PL}, OwnT g kfs es l → es.length = kfs.length
  | [], es, l, h => by simp only [OwnT] at h; rw [h.1]; rfl
  | (k, f) :: r, es, l, h => by
    simp only [OwnT] at h
    obtain ⟨i, y, t, l1, l2, rfl, _, _, _, q2⟩ := h
    simp [ownT_len q2]
theorem ownK_kind {kvs : List (VS.D × F)} {es : List (Key × V)} {js : List Key} {l : PL} (h : OwnK g kvs es l) (k : kindOk kvs (tD js) = true) : kvs = [] := by
  cases kvs with
  | nil => rfl
  | cons p r =>
    obtain ⟨q, d⟩ := p
    simp only [OwnK] at h
    obtain ⟨i, y, t, l1, l2, rfl, _, rfl, _, _⟩ := h
    cases i <;> simp [kindOk, kD, tD, D.flat] at k
theorem ownT_kind {kvs : List (VS.D × F)} {es : List (List Key × V)} {j : Key} {l : PL} (h : OwnT g kvs es l) (k : kindOk kvs (kD j) = true) : kvs = [] := by
  cases kvs with
  | nil => rfl
  | cons p r =>
    obtain ⟨q, d⟩ := p
    simp only [OwnT] at h
    obtain ⟨i, y, t, l1, l2, rfl, _, rfl, _, _⟩ := h
    cases j <;> simp [kindOk, kD, tD, D.flat] at k
/-- the dict at slot i written -/
theorem put_ok {kfs : List (VS.D × F)} {k : VS.D} {f : F} {i : Nat} {v y o : V} {lf lk : PL} (R1 : Rel cl g ρ m ls (lk ++ (lf ++ tmp)) fr σ H) (e : ρ[i]? = some (some (.v (.dct kfs)))) (eo : σ[i]? = some (some o)) (hf : Own g f v lf) (hk : kindOk kfs k = true) (hy : Rep g k y) (hl : kfs.length < sizeB)
    (q : ∀ ls' H', Rel cl g (ρ.set i (some (.v (.dct (VS.put kfs k f))))) m ls' tmp fr σ H' → D.nx σ H') : rPut1 o y v H fun H' => D.nx σ H' := by
  obtain ⟨s, lc, cc, G⟩ := R1
  obtain ⟨hi, _⟩ := List.getElem?_eq_some_iff.mp e
  obtain ⟨k1, k0, k2, q0, o0, rfl, e1, e2, s0, fs⟩ := s.set hi
  rw [e] at e1
  cases e1
  obtain ⟨v0, rfl, res⟩ := s0
  rw [eo] at e2
  cases e2
  have fin : ∀ {u u' : HO} {l0 ll l' : PL} {a : Addr}, k0 = (a, u) :: ll → priv u' = true → o = .ref a → Own g (.dct (VS.put kfs k f)) (.ref a) ((a, u') :: l') → (∀ q : Addr × HO → Nat, (ll.map q).sum + (lf.map q).sum = (l0.map q).sum + (l'.map q).sum) → H a = some u ∧ D.nx σ (upd H a u') := fun {u u' l0 ll l' a} ek hp eo' ow hs => by
    subst ek eo'
    have G2 : Good g.B ((a, u) :: (l0 ++ (l' ++ (lk ++ (tmp ++ (k1 ++ (k2 ++ (lc ++ fr)))))))) H := G.re (l0 := []) fun f => by
      have := hs f
      simp only [List.map_append, List.sum_append_nat, List.map_cons, List.sum_cons, List.map_nil, List.sum_nil]
      omega
    refine ⟨(G2.at_ _ List.mem_cons_self).1, ?_⟩
    have s3 := fs g (some (.v (.dct (VS.put kfs k f)))) (some (.ref a)) ((a, u') :: l') (.refl g) ⟨_, rfl, ow⟩
    rw [set_same eo] at s3
    refine q _ _ ⟨s3, lc, cc, (G2.write hp).re (l0 := l0 ++ lk) fun f => ?_⟩
    simp only [List.map_append, List.sum_append_nat, List.map_cons, List.sum_cons]
    omega
  have ow : Own g (.dct kfs) o k0 := res
  simp only [Own] at ow
  have hz : kfs.length < sizeLine := by rw [← sizeB_eq]; exact hl
  have hkk : k.key = true := by
    unfold kindOk at hk
    simp only [Bool.and_eq_true] at hk
    exact hk.1
  obtain ⟨a, ll, rfl, ⟨es, rfl, ow⟩ | ⟨es, rfl, ow⟩⟩ := ow
  · refine ⟨a, rfl, ?_⟩
    rcases key_cases hkk with ⟨j, rfl⟩ | ⟨js, rfl⟩
    · obtain ⟨l0, l', h1, h2⟩ := own_putK (j := j) hf ow
      obtain ⟨q1, q2⟩ := fin rfl (u' := .dK (put1 es j v)) rfl rfl (by simp only [Own]; exact ⟨a, l', rfl, .inl ⟨_, rfl, h1⟩⟩) h2
      exact .inl ⟨es, j, q1, rep_kD hy, by rw [ownK_len ow]; exact hz, q2⟩
    · have e0 := ownK_kind ow hk
      subst e0
      simp only [OwnK] at ow
      obtain ⟨rfl, rfl⟩ := ow
      obtain ⟨b, rfl, hb⟩ := rep_tD hy
      obtain ⟨l0, l', h1, h2⟩ := own_putT (j := js) hf (show OwnT g [] [] [] by simp only [OwnT]; exact ⟨trivial, trivial⟩)
      obtain ⟨q1, q2⟩ := fin rfl (u' := .dT [(js, v)]) rfl rfl (by simp only [Own]; exact ⟨a, l', rfl, .inr ⟨_, rfl, h1⟩⟩) h2
      exact .inr (.inr (.inl ⟨js, b, q1, rfl, tup_at G hb, q2⟩))
  · refine ⟨a, rfl, ?_⟩
    rcases key_cases hkk with ⟨j, rfl⟩ | ⟨js, rfl⟩
    · have e0 := ownT_kind ow hk
      subst e0
      simp only [OwnT] at ow
      obtain ⟨rfl, rfl⟩ := ow
      obtain ⟨l0, l', h1, h2⟩ := own_putK (j := j) hf (show OwnK g [] [] [] by simp only [OwnK]; exact ⟨trivial, trivial⟩)
      obtain ⟨q1, q2⟩ := fin rfl (u' := .dK [(j, v)]) rfl rfl (by simp only [Own]; exact ⟨a, l', rfl, .inl ⟨_, rfl, h1⟩⟩) h2
      exact .inr (.inr (.inr ⟨j, q1, rep_kD hy, q2⟩))
    · obtain ⟨b, rfl, hb⟩ := rep_tD hy
      obtain ⟨l0, l', h1, h2⟩ := own_putT (j := js) hf ow
      obtain ⟨q1, q2⟩ := fin rfl (u' := .dT (put1 es js v)) rfl rfl (by simp only [Own]; exact ⟨a, l', rfl, .inr ⟨_, rfl, h1⟩⟩) h2
      exact .inr (.inl ⟨es, js, b, q1, rfl, tup_at G hb, by rw [ownT_len ow]; exact hz, q2⟩)
/-- the container's name -/
structure NmOk (N : List Str) (sc : Scope) (i : Nat) (n : Str) : Prop where
  hi : N[i]? = some n
  hv : visB sc n = true
  hn : okName n = true
theorem pe_nm (C : CtxS X W N sc) {i : Nat} {n : Str} (k : NmOk N sc i n) : PE X (.Name n p) (tVar i) := pe_var (by rw [C.hN]; exact k.hi) (C.toCtxOk.vis k.hv) (CtxOk.dn k.hn).1 (CtxOk.dn k.hn).2.1
theorem slot_o {i : Nat} {f : F} (R1 : Rel cl g ρ m ls tmp fr σ H) (e : ρ[i]? = some (some (.v f))) : ∃ v l', σ[i]? = some (some v) ∧ Own g f v l' ∧ ∀ p ∈ l', p ∈ ls := by
  obtain ⟨v, l', e1, e2, e3⟩ := slots_get R1.slots e
  exact ⟨v, l', e1, e2, e3⟩
theorem s_put (C : CtxS X W N sc) {i : Nat} {n : Str} {pa : Pos} (k : NmOk N sc i n) (hy : noSlice y = true) (hk : PE X y (tE cl W b)) (he : PE X x (tE cl W a)) : PS X (.Assign [.Subscript (.Name n p) y pa] x pos) (tS cl W fu (.put i b a)) := by
  have hs : swapsWithSole [.Subscript (.Name n p) y pa] x pos.line X.env = pure false := sw_other (t := .Subscript (.Name n p) y pa) (fun _ _ => by simp) pos.line X.env
  have hw : swappedStores [.Subscript (.Name n p) y pa] x X.env = pure none := by cases x <;> rfl
  refine PS.by (ps_asg he (pg_sub (pe_nm C k) hk (set_put1 (by have := C.un; omega)) (fun v => by cases y <;> first | rfl | simp [noSlice] at hy)) hs hw) fun g ρ m ls tmp fr σ H D hR h => ⟨g, ρ, m, ls, tmp, fr, hR, AftS.so h fun r m1 v g1 H1 l1 _ le1 res1 R1 h1 => ?_⟩
  cases r with
  | w f => exact h1.elim
  | v f =>
    dsimp only at h1
    split at h1
    · rename_i kfs ei
      obtain ⟨o, l', eo, ow, _⟩ := slot_o R1 ei
      refine ⟨o, eo, g1, ρ, m1, ls, l1 ++ tmp, fr, R1, AftS.so2 h1 fun q m2 u g2 H2 l2 _ le2 res2 R2 h2 => ?_⟩
      split at h2
      · rename_i kd ek
        split at h2
        · rename_i hh
          simp only [Bool.and_eq_true, decide_eq_true_eq] at hh
          exact put_ok R2 ei eo (Own.mono le2 _ _ _ res1) hh.1 (res_rep res2 (pd_f ek)) hh.2 fun ls' H' R3 => h2 σ g2 ls' H' (.refl g2) R3
        · exact h2.elim
      · exact h2.elim
    · exact h1.elim
/-- the list at slot i -/
theorem list_at {fs : List F} {i : Nat} {o : V} {lf : PL} (R1 : Rel cl g ρ m ls (lf ++ tmp) fr σ H) (e : ρ[i]? = some (some (.v (.lst fs)))) (eo : σ[i]? = some (some o)) : ∃ a xs ll, o = .ref a ∧ H a = some (.lst xs) ∧ Owns g fs xs ll ∧
    ∀ {gs : List F} {ys : List V} {l0 l' : PL}, Owns g gs ys l' → (∀ q : Addr × HO → Nat, (ll.map q).sum + (lf.map q).sum = (l0.map q).sum + (l'.map q).sum) → ∃ ls', Rel cl g (ρ.set i (some (.v (.lst gs)))) m ls' tmp fr σ (upd H a (.lst ys)) := by
  obtain ⟨s, lc, cc, G⟩ := R1
  obtain ⟨hi, _⟩ := List.getElem?_eq_some_iff.mp e
  obtain ⟨k1, k0, k2, q0, o0, rfl, e1, e2, s0, fs'⟩ := s.set hi
  rw [e] at e1
  cases e1
  obtain ⟨v0, rfl, res⟩ := s0
  rw [eo] at e2
  cases e2
  have ow : Own g (.lst fs) o k0 := res
  simp only [Own] at ow
  obtain ⟨a, xs, ll, rfl, rfl, ow⟩ := ow
  have G2 : Good g.B ((a, .lst xs) :: (ll ++ (lf ++ (tmp ++ (k1 ++ (k2 ++ (lc ++ fr))))))) H := G.re (l0 := []) fun f => by
    simp only [List.map_append, List.sum_append_nat, List.map_cons, List.sum_cons, List.map_nil, List.sum_nil]
    omega
  refine ⟨a, xs, ll, rfl, (G2.at_ _ List.mem_cons_self).1, ow, fun {gs ys l0 l'} og hs => ?_⟩
  have s3 := fs' g (some (.v (.lst gs))) (some (.ref a)) ((a, .lst ys) :: l') (.refl g) ⟨_, rfl, by show Own g (.lst gs) _ _; simp only [Own]; exact ⟨a, ys, l', rfl, rfl, og⟩⟩
  rw [set_same eo] at s3
  refine ⟨_, s3, lc, cc, (G2.write (o' := .lst ys) rfl).re (l0 := l0) fun f => ?_⟩
  have := hs f
  simp only [List.map_append, List.sum_append_nat, List.map_cons, List.sum_cons]
  omega
theorem owns_set : ∀ {fs : List F} {xs : List V} {l : PL} {f : F} {v : V} {lf : PL} (n : Nat), Owns g fs xs l → Own g f v lf → n < fs.length → ∃ l0 l' : PL, Owns g (fs.set n f) (xs.set n v) l' ∧ ∀ q : Addr × HO → Nat, (l.map q).sum + (lf.map q).sum = (l0.map q).sum + (l'.map q).sum
  | [], _, _, _, _, _, _, _, _, hn => absurd hn (Nat.not_lt_zero _)
  | f0 :: fs, xs, l, f, v, lf, 0, h, k, _ => by
    simp only [Owns] at h
    obtain ⟨x, t, l1, l2, rfl, rfl, q1, q2⟩ := h
    refine ⟨l1, lf ++ l2, ?_, fun q => by simp only [List.map_append, List.sum_append_nat]; omega⟩
    simp only [List.set_cons_zero, Owns]
    exact ⟨v, t, lf, l2, rfl, rfl, k, q2⟩
  | f0 :: fs, xs, l, f, v, lf, n + 1, h, k, hn => by
    simp only [Owns] at h
    obtain ⟨x, t, l1, l2, rfl, rfl, q1, q2⟩ := h
    obtain ⟨l0, l', h1, h2⟩ := owns_set n q2 k (by simpa using hn)
    refine ⟨l0, l1 ++ l', ?_, fun q => by have := h2 q; simp only [List.map_append, List.sum_append_nat]; omega⟩
    simp only [List.set_cons_succ, Owns]
    exact ⟨x, t.set n v, l1, l', rfl, rfl, q1, h1⟩
theorem s_puti (C : CtxS X W N sc) {i : Nat} {n : Str} {pa : Pos} (k : NmOk N sc i n) (hy : noSlice y = true) (hk : PE X y (tE cl W b)) (he : PE X x (tE cl W a)) : PS X (.Assign [.Subscript (.Name n p) y pa] x pos) (tS cl W fu (.puti i b a)) := by
  have hs : swapsWithSole [.Subscript (.Name n p) y pa] x pos.line X.env = pure false := sw_other (t := .Subscript (.Name n p) y pa) (fun _ _ => by simp) pos.line X.env
  have hw : swappedStores [.Subscript (.Name n p) y pa] x X.env = pure none := by cases x <;> rfl
  refine PS.by (ps_asg he (pg_sub (pe_nm C k) hk set_list (fun v => by cases y <;> first | rfl | simp [noSlice] at hy)) hs hw) fun g ρ m ls tmp fr σ H D hR h => ⟨g, ρ, m, ls, tmp, fr, hR, AftS.so h fun r m1 v g1 H1 l1 _ le1 res1 R1 h1 => ?_⟩
  cases r with
  | w f => exact h1.elim
  | v f =>
    dsimp only at h1
    split at h1
    · rename_i fs ei
      obtain ⟨o, l', eo, ow, _⟩ := slot_o R1 ei
      refine ⟨o, eo, g1, ρ, m1, ls, l1 ++ tmp, fr, R1, AftS.so2 h1 fun q m2 u g2 H2 l2 _ le2 res2 R2 h2 => ?_⟩
      split at h2
      · rename_i j ej
        split at h2
        · rename_i n' en
          rw [← List.append_assoc] at R2
          obtain ⟨a, xs, ll, rfl, hH, ow2, fin⟩ := list_at R2 ei eo
          have hl := own_len ow2
          obtain ⟨l0, l3, h3, h4⟩ := owns_set n' ow2 (Own.mono le2 _ _ _ res1) (ixN_seq en).2.1
          obtain ⟨ls', R3⟩ := fin (l0 := l2 ++ l0) h3 fun q => by have := h4 q; simp only [List.map_append, List.sum_append_nat]; omega
          exact ⟨a, xs, j, n', rfl, res_int res2 (data_int ej), hH, by rw [hl]; exact en, h2 σ g2 ls' _ (.refl g2) R3⟩
        · exact h2.elim
      · exact h2.elim
    · exact h1.elim
theorem s_append (C : CtxS X W N sc) {i : Nat} {n : Str} {pa : Pos} (k : NmOk N sc i n) (he : PE X x (tE cl W a)) (hk : ckE N a sc x = true) (hl : (pa.endLine == pos.line) = true) : PS X (.Expr (.Call (.Attribute (.Name n p) "append" pa) [x] [] pos) p2) (tS cl W fu (.append i a)) := by
  have hx := star_of (es := []) hk X.env
  have hx2 : starEach [x] X.env = [x].map fun e => (false, eval e X.env) := hx
  have base := pe_bm (cpos := pos) (apos := pa) PySem.F.plainAttrs_list PySem.F.slot_list_append PySem.F.type_list_append mt_append (pe_nm (p := p) C k) (pa_cons he pa_nil hx) rfl (back_few hx2 (by simp)) hl hx (by rfl)
  refine PS.by (ps_expr base (sw_no rfl _ _ _)) fun g ρ m ls tmp fr σ H D hR h => ?_
  simp only [ex] at h
  split at h
  · rename_i fs ei
    obtain ⟨o, l', eo, ow, hl'⟩ := slot_o hR ei
    have ow' := ow
    simp only [Own] at ow'
    obtain ⟨ad, xs, ll, rfl, rfl, _⟩ := ow'
    have hH : H ad = some (.lst xs) := by
      obtain ⟨s, lc, cc, G⟩ := hR
      exact (G.at_ (ad, .lst xs) (List.mem_append_right _ (List.mem_append_left _ (hl' _ List.mem_cons_self)))).1
    refine ⟨.ref ad, eo, .inl ⟨rfl, xs, .inl (.inl hH)⟩, g, ρ, m, ls, tmp, fr, hR, AftS.so h fun r m1 v g1 H1 l1 _ le1 res1 R1 h1 => ?_⟩
    cases r with
    | w f => exact h1.elim
    | v f =>
      dsimp only at h1
      split at h1
      · rename_i hlen
        obtain ⟨a2, xs2, ll2, e2, hH2, ow2, fin⟩ := list_at R1 ei eo
        cases e2
        obtain ⟨ls', R3⟩ := fin (l0 := []) (owns_snoc ow2 res1) fun q => by simp only [List.map_append, List.sum_append_nat, List.map_nil, List.sum_nil]; omega
        exact ⟨ad, xs2, v, rfl, rfl, hH2, by rw [own_len ow2, ← sizeB_eq]; exact hlen, h1 σ g1 ls' _ (.refl g1) R3⟩
      · exact h1.elim
  · exact h.elim
/-- a class that may be raised -/
def RaiseOk (cl : Cl) (X : Cx) (c : Str) : Prop := ∃ Ca bmB B newId initId, cl c = some Ca ∧ ExcBaseFacts B newId initId bmB ∧ PySem.W.excIn X.K Ca bmB newId = true ∧ X.mg c = some (.ref Ca) ∧ PySem.W.keepIn X.K (.ref Ca) = true ∧ Raises X (.ref Ca)
theorem s_raise (C : CtxS X W N sc) {n t : Str} {j : Nat} {p3 : Pos} (hg : glB sc n = true) (hn : okName n = true) (k : RaiseOk cl X n) : PS X (.Raise (some (.Call (.Name n p) [.Constant (.str t) j p2] [] p3)) none pos) (tS cl W fu (.raise n)) := by
  obtain ⟨Ca, bmB, B, newId, initId, hc, F, q, gC, kC, r⟩ := k
  refine PS.by (ps_raise C.calm C.tk (pmk_own F q gC kC r (C.toCtxOk.gl hg) (CtxOk.dn hn).1)) fun g ρ m ls tmp fr σ H D hR h => ?_
  obtain ⟨C', hC', w⟩ := h
  rw [hc] at hC'
  cases hC'
  exact w σ g ls H (.refl g) hR
/-- a slot frozen: nothing runs -/
theorem frz_step {i : Nat} {s : S} (h : tS cl W fu (.seq (.frz i) s) D σ H) : tS cl W fu s D σ H := by
  obtain ⟨g, ρ, m, ls, tmp, fr, hR, h⟩ := h
  have e0 : ex fu (.seq (.frz i) s) ρ m = match (match ρ[i]? with
    | some (some (.v f)) => SO.nx (ρ.set i (some (.p f.data))) m
    | some (some (.w _)) => .nx ρ m
    | _ => .bad) with | .nx ρ1 m1 => ex fu s ρ1 m1 | o => o := rfl
  rw [e0] at h
  cases e : ρ[i]? with
  | none => rw [e] at h; exact h.elim
  | some q =>
    rw [e] at h
    cases q with
    | none => exact h.elim
    | some q =>
      cases q with
      | w f => exact ⟨g, ρ, m, ls, tmp, fr, hR, h⟩
      | v f =>
        obtain ⟨s0, lc, cc, G⟩ := hR
        obtain ⟨hi, _⟩ := List.getElem?_eq_some_iff.mp e
        obtain ⟨k1, k0, k2, q0, o0, rfl, e1, e2, ss, fs⟩ := s0.set hi
        rw [e] at e1
        cases e1
        obtain ⟨v, rfl, res⟩ := ss
        have G2 : Good g.B (k0 ++ (tmp ++ ((k1 ++ k2) ++ (lc ++ fr)))) H := G.re (l0 := []) fun f => by
          simp only [List.map_append, List.sum_append_nat, List.map_nil, List.sum_nil]
          omega
        obtain ⟨g2, le2, as2, r2, G3⟩ := Own.cool f g v k0 _ H res G2
        have s3 := fs g2 (some (.p f.data)) (some v) [] le2 ⟨v, rfl, res_p r2⟩
        rw [set_same e2] at s3
        exact ⟨g2, _, m, _, tmp, fr, ⟨s3, lc, as2 ▸ cc.mono le2, by rw [List.nil_append]; exact G3⟩, AftS.le le2 h⟩
end
end VS

/-! VSv: the check of statements, and their soundness. -/
namespace VS
open PySem PySem.Spec PyProof.Rows L2
def swB (sc : Scope) (n : Str) (p : Pos) (x : Expr) : Bool := match x with
  | .ListComp _ _ s cpos => (sc.names.lookup n == some .local) && (p.line == cpos.line) && !(s.names.any fun (m, k) => m == n && (k == .local || k == .cell))
  | _ => false
def isCp : E → Bool
  | .comp _ _ _ _ _ _ => true
  | .frz (.comp _ _ _ _ _ _) => true
  | _ => false
def fnKind (sc : Scope) : Bool := match sc.kind with
  | .function => true
  | _ => false
mutual
def ckS (N : List Str) (sc : Scope) : S → Stmt → Bool
  | .skip, st => match st with
    | .Pass _ => true
    | .Expr (.Constant (.str _) _ _) _ => true
    | _ => false
  | .seq _ _, _ => false
  | .expr e, st => match st with
    | .Expr x _ => ckE N e sc x && !isComp x
    | _ => false
  | .asg i e, st => match st with
    | .Assign [.Name n p] x _ => ckN N sc i (.Name n p) && ckE N e sc x && fnKind sc && (!swB sc n p x || isCp e)
    | _ => false
  | .asgv i j, st => match st with
    | .Assign [.Name n p] (.Name n2 _) _ => ckN N sc i (.Name n p) && decide (N[j]? = some n2) && visB sc n2 && okName n2
    | _ => false
  | .asgT is e, st => match st with
    | .Assign [.Tuple ts _ _] x _ => ckNs N sc is ts && ckE N e sc x && !isTup x
    | _ => false
  | .ifs c s t, st => match st with
    | .If x a b _ => ckE N c sc x && okT c && ckB N sc s a && ckB N sc t b
    | _ => false
  | .for tg k es body, st => match st with
    | .For t it b [] _ => ckTg N sc tg t && ckSrc N k es sc t it && ckB N sc body b
    | _ => false
  | .forw tg i body, st => match st with
    | .For t (.Name n _) b [] _ => ckTg N sc tg t && decide (N[i]? = some n) && visB sc n && okName n && ckB N sc body b
    | _ => false
  | .while c body, st => match st with
    | .While x b [] _ => ckE N c sc x && okT c && ckB N sc body b
    | _ => false
  | .ret e, st => match st with
    | .Return (some x) _ => ckE N e sc x
    | _ => false
  | .retv i, st => match st with
    | .Return (some (.Name n _)) _ => decide (N[i]? = some n) && visB sc n && okName n
    | _ => false
  | .ret0, st => match st with
    | .Return none _ => true
    | _ => false
  | .brk, st => match st with
    | .Break _ => true
    | _ => false
  | .cnt, st => match st with
    | .Continue _ => true
    | _ => false
  | .append i e, st => match st with
    | .Expr (.Call (.Attribute (.Name n _) nm pa) [x] [] pos) _ => decide (nm = ("append" : Str)) && decide (N[i]? = some n) && visB sc n && okName n && ckE N e sc x && (pa.endLine == pos.line)
    | _ => false
  | .extend i e, st => false
  | .put i k e, st => match st with
    | .Assign [.Subscript (.Name n _) y _] x _ => decide (N[i]? = some n) && visB sc n && okName n && noSlice y && ckE N k sc y && ckE N e sc x
    | _ => false
  | .puti i k e, st => match st with
    | .Assign [.Subscript (.Name n _) y _] x _ => decide (N[i]? = some n) && visB sc n && okName n && noSlice y && ckE N k sc y && ckE N e sc x
    | _ => false
  | .frz _, _ => false
  | .raise c, st => match st with
    | .Raise (some (.Call (.Name n _) [.Constant (.str _) _ _] [] _)) none _ => decide (n = c) && glB sc n && okName n
    | _ => false
def ckB (N : List Str) (sc : Scope) : S → List Stmt → Bool
  | .seq s t, sts => match s with
    | .frz _ => ckB N sc t sts
    | s => match sts with
      | st :: rest => ckS N sc s st && ckB N sc t rest
      | [] => false
  | .skip, sts => match sts with
    | [] => true
    | _ => false
  | _, _ => false
end
def S.Lk (P : Str → Fn → Prop) (G : Str → VS.D → Prop) (Z : Str → Prop) : S → Prop
  | .seq s t => s.Lk P G Z ∧ t.Lk P G Z
  | .expr e => e.Lk P G
  | .asg _ e => e.Lk P G
  | .asgT _ e => e.Lk P G
  | .ifs c s t => c.Lk P G ∧ s.Lk P G Z ∧ t.Lk P G Z
  | .for _ _ es b => es.Lk P G ∧ b.Lk P G Z
  | .forw _ _ b => b.Lk P G Z
  | .while c b => c.Lk P G ∧ b.Lk P G Z
  | .ret e => e.Lk P G
  | .append _ e => e.Lk P G
  | .extend _ e => e.Lk P G
  | .put _ k e => k.Lk P G ∧ e.Lk P G
  | .puti _ k e => k.Lk P G ∧ e.Lk P G
  | .raise c => Z c
  | _ => True
section
variable {cl : Cl} {X : Cx} {W : WX} {N : List Str} {sc scope : Scope} {g g' : Gh} {ρ : Env} {m : Mem} {ls tmp fr : PL} {σ : L2.St} {H : Hp} {Q : VK} {a b c es e : E} {x y z tg iter : Expr} {xs : List Expr} {pos p p2 : Pos} {D : Ends} {fu : Nat}
theorem sw_lc {elt : Expr} {gs : List Comprehension} {s : Scope} {n : Str} (l : Nat) (C : CtxOk X W N sc) (h : swB sc n p (.ListComp elt gs s pos) = false) : swapsWith (.ListComp elt gs s pos) (some (.Name n p)) l X.env = pure false := by
  have e : (X.env.blockKind == .function && X.env.kindOf n == some .local && p.line == pos.line && !(s.names.any fun (m, k) => m == n && (k == .local || k == .cell))) = false := by
    have k : X.env.kindOf n = sc.names.lookup n := by rw [← C.hsc]; rfl
    rw [k]
    have h : ((sc.names.lookup n == some .local) && (p.line == pos.line) && !(s.names.any fun (m, k) => m == n && (k == .local || k == .cell))) = false := h
    cases (X.env.blockKind == .function)
    · rfl
    · exact h
  show (pure (X.env.blockKind == .function && X.env.kindOf n == some .local && p.line == pos.line && !(s.names.any fun (m, k) => m == n && (k == .local || k == .cell))) : Sem Bool) = pure false
  rw [e]
theorem comp_lc {e : E} {x : Expr} (h : ckE N e sc x = true) (hc : isComp x = true) : ∃ elt gs s p, x = .ListComp elt gs s p := by
  cases x <;> simp only [isComp, Bool.false_eq_true] at hc
  · exact ⟨_, _, _, _, rfl⟩
  · exfalso
    induction e <;> first | (simp [ckE] at h; done) | skip
    rename_i a ih
    simp only [ckE] at h
    exact ih h
  · exfalso
    induction e <;> first | (simp [ckE] at h; done) | skip
    rename_i a ih
    simp only [ckE] at h
    exact ih h
theorem swB_comp {n : Str} (h : swB sc n p x = true) : ∃ elt gs s cp, x = .ListComp elt gs s cp := by
  cases x <;> simp only [swB, Bool.false_eq_true] at h
  exact ⟨_, _, _, _, rfl⟩
theorem s_asgC (C : CtxS X W N sc) {elt : E} {tgt : Tg} {k : Src} {own : List (Str × Nat)} {i : Nat} {n : Str} {x t it : Expr} {ifs : List Expr} {cpos : Pos} {e : E} (hn : ckN N sc i (.Name n p) = true) (hk : fnKind sc = true) (hs : swB sc n p (.ListComp x [⟨t, it, ifs, 0⟩] scope cpos) = true)
    (L : LcOk cl X W N elt tgt k es c own x t it ifs scope) (he : ∀ σ H R0, tE cl W e σ H R0 → tE cl W (.comp elt tgt k es c own) σ H R0) : PS X (.Assign [.Name n p] (.ListComp x [⟨t, it, ifs, 0⟩] scope cpos) pos) (tS cl W fu (.asg i e)) := by
  obtain ⟨n', p', e', hi, hl⟩ := ckN_name hn
  cases e'
  simp only [swB, Bool.and_eq_true, Bool.not_eq_true'] at hs
  obtain ⟨⟨h1, h2⟩, h3⟩ := hs
  have hy : X.env.scope.names.lookup n = some .local := by rw [C.hsc]; exact eq_of_beq h1
  have hkd : X.env.scope.kind = .function := by
    rw [C.hsc]
    unfold fnKind at hk
    split at hk
    · assumption
    · cases hk
  refine PS.by (ps_setLc (pos := cpos) (spos := pos) (py := p) C.calm (by rw [C.hN]; exact C.nd) (by rw [C.hN]; exact hi) hy (sw_true hkd hy h2 h3) L.pi L.ok L.hg L.ht L.he L.fs) fun g ρ m ls tmp fr σ H D hR h => ?_
  exact rd_comp L.own (he _ _ _ (rd_asg hR h))
theorem rd_seq {s t : S} (h : tS cl W fu (.seq s t) D σ H) : tS cl W fu s { D with nx := tS cl W fu t D } σ H := by
  obtain ⟨g, ρ, m, ls, tmp, fr, hR, h⟩ := h
  refine ⟨g, ρ, m, ls, tmp, fr, hR, ?_⟩
  have h : AftS cl W g tmp fr D (match ex fu s ρ m with | .nx ρ1 m1 => ex fu t ρ1 m1 | o => o) := h
  cases e : ex fu s ρ m with
  | nx ρ1 m1 => rw [e] at h; exact fun σ' g' ls' H' le R' => ⟨g', ρ1, m1, ls', tmp, fr, R', AftS.le le h⟩
  | brk ρ1 m1 => rw [e] at h; exact h
  | cnt ρ1 m1 => rw [e] at h; exact h
  | ret r m1 => rw [e] at h; exact h
  | exc c ρ1 m1 => rw [e] at h; exact h
  | bad => rw [e] at h; exact h.elim
structure SndS (cl : Cl) (N : List Str) (fu : Nat) (s : S) : Prop where
  ps : ∀ {X : Cx} {W : WX} {sc : Scope} {st : Stmt}, CtxS X W N sc → s.Lk (CallOk cl X) (GlbOk X) (RaiseOk cl X) → ckS N sc s st = true → PS X st (tS cl W fu s)
  pb : ∀ {X : Cx} {W : WX} {sc : Scope} {st : List Stmt}, CtxS X W N sc → s.Lk (CallOk cl X) (GlbOk X) (RaiseOk cl X) → ckB N sc s st = true → PSs X st (tS cl W fu s)
theorem sndS : ∀ s : S, SndS cl N fu s := by
  intro s
  induction s with
  | skip => exact ⟨fun C _ h => by
      simp only [ckS] at h
      split at h
      · exact s_pass
      · exact s_doc
      · (cases h), fun {X W sc st} C _ h => by
      cases st with
      | nil => exact ⟨fun pins s σ H D I ⟨g, ρ, m, ls, tmp, fr, hR, ha⟩ => pss_nil.run pins s σ H D I (ha σ g ls H (.refl g) hR)⟩
      | cons _ _ => simp [ckB] at h⟩
  | seq s t ihs iht =>
    refine ⟨fun C _ h => by simp [ckS] at h, fun {X W sc st} C hl h => ?_⟩
    have hh : (∃ i, s = .frz i ∧ ckB N sc t st = true) ∨ ∃ x xs, st = x :: xs ∧ ckS N sc s x = true ∧ ckB N sc t xs = true := by
      unfold ckB at h
      split at h
      · exact .inl ⟨_, rfl, h⟩
      · cases st with
        | nil => simp at h
        | cons x xs =>
          simp only [Bool.and_eq_true] at h
          exact .inr ⟨x, xs, rfl, h.1, h.2⟩
    rcases hh with ⟨i, rfl, h⟩ | ⟨x, xs, rfl, h1, h2⟩
    · exact ⟨fun pins s σ H D I hw => (iht.pb C hl.2 h).run pins s σ H D I (frz_step hw)⟩
    · exact ⟨fun pins s σ H D I hw => (pss_cons (ihs.ps C hl.1 h1) (iht.pb C hl.2 h2)).run pins s σ H D I (rd_seq hw)⟩
  | expr e => exact ⟨fun C hl h => by
      unfold ckS at h
      split at h
      · simp only [Bool.and_eq_true, Bool.not_eq_true'] at h
        exact s_expr ((snd e).pe C.toCtxOk hl h.1) h.2
      · (cases h), fun _ _ h => by simp [ckB] at h⟩
  | asg i e => exact ⟨fun {X W sc st} C hl h => by
      unfold ckS at h
      split at h
      · rename_i n p x pos
        simp only [Bool.and_eq_true, Bool.or_eq_true, Bool.not_eq_true'] at h
        obtain ⟨⟨⟨h1, h2⟩, h3⟩, h4⟩ := h
        cases hb : swB sc n p x with
        | false =>
          refine s_asg C h1 ((snd e).pe C.toCtxOk hl h2) ?_
          cases hc : isComp x with
          | false => exact sw_no hc _ _ _
          | true =>
            obtain ⟨elt, gs, s, p', rfl⟩ := comp_lc h2 hc
            exact sw_lc _ C.toCtxOk hb
        | true =>
          rw [hb] at h4
          simp only [Bool.true_eq_false, false_or] at h4
          obtain ⟨elt, gs, s, p', rfl⟩ := swB_comp hb
          unfold isCp at h4
          split at h4
          · rename_i el tg k es c own
            have h2' := h2
            unfold ckE at h2
            split at h2
            · rename_i e1
              cases e1
              obtain ⟨rfl, L⟩ := lc_ok (snd _) (snd _) (snd _) C.toCtxOk hl h2'
              exact s_asgC C h1 h3 hb L fun _ _ _ q => q
            · cases h2
          · rename_i el tg k es c own
            have h2' : ckE N (.comp el tg k es c own) sc (.ListComp elt gs s p') = true := by simpa only [ckE] using h2
            have h2 := h2'
            unfold ckE at h2
            split at h2
            · rename_i e1
              cases e1
              obtain ⟨rfl, L⟩ := lc_ok (snd _) (snd _) (snd _) C.toCtxOk hl h2'
              exact s_asgC C h1 h3 hb L fun _ _ _ q => frz_rd q
            · cases h2
          · cases h4
      · (cases h), fun _ _ h => by simp [ckB] at h⟩
  | asgv i j => exact ⟨fun C hl h => by
      unfold ckS at h
      split at h
      · simp only [Bool.and_eq_true, decide_eq_true_eq] at h
        obtain ⟨⟨⟨h1, h2⟩, h3⟩, h4⟩ := h
        exact s_asgv C h1 h2 h3 h4
      · (cases h), fun _ _ h => by simp [ckB] at h⟩
  | asgT is e => exact ⟨fun C hl h => by
      unfold ckS at h
      split at h
      · simp only [Bool.and_eq_true, Bool.not_eq_true'] at h
        exact s_asgT C h.1.1 ((snd e).pe C.toCtxOk hl h.1.2) h.2
      · (cases h), fun _ _ h => by simp [ckB] at h⟩
  | ifs c s t ihs iht => exact ⟨fun C hl h => by
      unfold ckS at h
      split at h
      · simp only [Bool.and_eq_true] at h
        obtain ⟨⟨⟨h1, h2⟩, h3⟩, h4⟩ := h
        exact s_ifs ((snd c).pt C.toCtxOk hl.1 h1 h2) (ihs.pb C hl.2.1 h3) (iht.pb C hl.2.2 h4)
      · (cases h), fun _ _ h => by simp [ckB] at h⟩
  | «for» tg k es body ih => exact ⟨fun C hl h => by
      unfold ckS at h
      split at h
      · simp only [Bool.and_eq_true] at h
        obtain ⟨⟨h1, h2⟩, h3⟩ := h
        obtain ⟨q1, q2⟩ := src_of (b := true) (snd es) C.toCtxOk hl.1 h2
        exact s_for C h1 q1 q2 (ih.pb C hl.2 h3)
      · (cases h), fun _ _ h => by simp [ckB] at h⟩
  | forw tg i body ih => exact ⟨fun C hl h => by
      unfold ckS at h
      split at h
      · simp only [Bool.and_eq_true, decide_eq_true_eq] at h
        obtain ⟨⟨⟨⟨h1, h2⟩, h3⟩, h4⟩, h5⟩ := h
        exact s_forw C h1 h2 h3 h4 (ih.pb C hl h5)
      · (cases h), fun _ _ h => by simp [ckB] at h⟩
  | «while» c body ih => exact ⟨fun C hl h => by
      unfold ckS at h
      split at h
      · simp only [Bool.and_eq_true] at h
        exact s_while C ((snd c).pt C.toCtxOk hl.1 h.1.1 h.1.2) (ih.pb C hl.2 h.2)
      · (cases h), fun _ _ h => by simp [ckB] at h⟩
  | ret e => exact ⟨fun C hl h => by
      unfold ckS at h
      split at h
      · exact s_ret ((snd e).pe C.toCtxOk hl h)
      · (cases h), fun _ _ h => by simp [ckB] at h⟩
  | retv i => exact ⟨fun C hl h => by
      unfold ckS at h
      split at h
      · simp only [Bool.and_eq_true, decide_eq_true_eq] at h
        exact s_retv C h.1.1 h.1.2 h.2
      · (cases h), fun _ _ h => by simp [ckB] at h⟩
  | ret0 => exact ⟨fun C hl h => by
      unfold ckS at h
      split at h
      · exact s_ret0
      · (cases h), fun _ _ h => by simp [ckB] at h⟩
  | brk => exact ⟨fun C hl h => by
      unfold ckS at h
      split at h
      · exact s_brk
      · (cases h), fun _ _ h => by simp [ckB] at h⟩
  | cnt => exact ⟨fun C hl h => by
      unfold ckS at h
      split at h
      · exact s_cnt
      · (cases h), fun _ _ h => by simp [ckB] at h⟩
  | append i e => exact ⟨fun C hl h => by
      unfold ckS at h
      split at h
      · simp only [Bool.and_eq_true, decide_eq_true_eq] at h
        obtain ⟨⟨⟨⟨⟨rfl, h1⟩, h2⟩, h3⟩, h4⟩, h5⟩ := h
        exact s_append C ⟨h1, h2, h3⟩ ((snd e).pe C.toCtxOk hl h4) h4 h5
      · (cases h), fun _ _ h => by simp [ckB] at h⟩
  | extend i e => exact ⟨fun C hl h => by simp [ckS] at h, fun _ _ h => by simp [ckB] at h⟩
  | put i k e => exact ⟨fun C hl h => by
      unfold ckS at h
      split at h
      · simp only [Bool.and_eq_true, decide_eq_true_eq] at h
        obtain ⟨⟨⟨⟨⟨h1, h2⟩, h3⟩, h4⟩, h5⟩, h6⟩ := h
        exact s_put C ⟨h1, h2, h3⟩ h4 ((snd k).pe C.toCtxOk hl.1 h5) ((snd e).pe C.toCtxOk hl.2 h6)
      · (cases h), fun _ _ h => by simp [ckB] at h⟩
  | puti i k e => exact ⟨fun C hl h => by
      unfold ckS at h
      split at h
      · simp only [Bool.and_eq_true, decide_eq_true_eq] at h
        obtain ⟨⟨⟨⟨⟨h1, h2⟩, h3⟩, h4⟩, h5⟩, h6⟩ := h
        exact s_puti C ⟨h1, h2, h3⟩ h4 ((snd k).pe C.toCtxOk hl.1 h5) ((snd e).pe C.toCtxOk hl.2 h6)
      · (cases h), fun _ _ h => by simp [ckB] at h⟩
  | frz i => exact ⟨fun C hl h => by simp [ckS] at h, fun _ _ h => by simp [ckB] at h⟩
  | raise c => exact ⟨fun C hl h => by
      unfold ckS at h
      split at h
      · simp only [Bool.and_eq_true, decide_eq_true_eq] at h
        obtain ⟨⟨rfl, h1⟩, h2⟩ := h
        exact s_raise C h1 h2 hl
      · (cases h), fun _ _ h => by simp [ckB] at h⟩
end
end VS

/-! VSw: a def by its text. -/
namespace VS
open PySem PySem.Spec PyProof.Rows L2
theorem E.Lk.imp {P P' : Str → Fn → Prop} {G G' : Str → VS.D → Prop} (hP : ∀ x f, P x f → P' x f) (hG : ∀ x d, G x d → G' x d) : ∀ e : E, e.Lk P G → e.Lk P' G'
  | .glb x d, h => hG _ _ h
  | .call x f es, h => ⟨hP _ _ h.1, E.Lk.imp hP hG es h.2⟩
  | .bin _ a b, h => ⟨E.Lk.imp hP hG a h.1, E.Lk.imp hP hG b h.2⟩
  | .neg a, h => E.Lk.imp hP hG a h
  | .not a, h => E.Lk.imp hP hG a h
  | .cmp _ a b, h => ⟨E.Lk.imp hP hG a h.1, E.Lk.imp hP hG b h.2⟩
  | .cmp2 _ _ a b c, h => ⟨E.Lk.imp hP hG a h.1, E.Lk.imp hP hG b h.2.1, E.Lk.imp hP hG c h.2.2⟩
  | .and a b, h => ⟨E.Lk.imp hP hG a h.1, E.Lk.imp hP hG b h.2⟩
  | .or a b, h => ⟨E.Lk.imp hP hG a h.1, E.Lk.imp hP hG b h.2⟩
  | .ifx c a b, h => ⟨E.Lk.imp hP hG c h.1, E.Lk.imp hP hG a h.2.1, E.Lk.imp hP hG b h.2.2⟩
  | .sub a i, h => ⟨E.Lk.imp hP hG a h.1, E.Lk.imp hP hG i h.2⟩
  | .slice a lo hi, h => ⟨E.Lk.imp hP hG a h.1, E.Lk.imp hP hG lo h.2.1, E.Lk.imp hP hG hi h.2.2⟩
  | .rev _ a, h => E.Lk.imp hP hG a h
  | .tup es, h => E.Lk.imp hP hG es h
  | .lst es, h => E.Lk.imp hP hG es h
  | .bi _ es, h => E.Lk.imp hP hG es h
  | .isi a _, h => E.Lk.imp hP hG a h
  | .mth _ o es, h => ⟨E.Lk.imp hP hG o h.1, E.Lk.imp hP hG es h.2⟩
  | .comp elt _ _ es cond _, h => ⟨E.Lk.imp hP hG elt h.1, E.Lk.imp hP hG es h.2.1, E.Lk.imp hP hG cond h.2.2⟩
  | .frz a, h => E.Lk.imp hP hG a h
  | .cons e es, h => ⟨E.Lk.imp hP hG e h.1, E.Lk.imp hP hG es h.2⟩
  | .no, _ => trivial
  | .var _, _ => trivial
  | .cst _, _ => trivial
  | .dnew, _ => trivial
theorem S.Lk.imp {P P' : Str → Fn → Prop} {G G' : Str → VS.D → Prop} {Z Z' : Str → Prop} (hP : ∀ x f, P x f → P' x f) (hG : ∀ x d, G x d → G' x d) (hZ : ∀ x, Z x → Z' x) : ∀ s : S, s.Lk P G Z → s.Lk P' G' Z'
  | .seq s t, h => ⟨S.Lk.imp hP hG hZ s h.1, S.Lk.imp hP hG hZ t h.2⟩
  | .expr e, h => E.Lk.imp hP hG e h
  | .asg _ e, h => E.Lk.imp hP hG e h
  | .asgT _ e, h => E.Lk.imp hP hG e h
  | .ifs c s t, h => ⟨E.Lk.imp hP hG c h.1, S.Lk.imp hP hG hZ s h.2.1, S.Lk.imp hP hG hZ t h.2.2⟩
  | .for _ _ es b, h => ⟨E.Lk.imp hP hG es h.1, S.Lk.imp hP hG hZ b h.2⟩
  | .forw _ _ b, h => S.Lk.imp hP hG hZ b h
  | .while c b, h => ⟨E.Lk.imp hP hG c h.1, S.Lk.imp hP hG hZ b h.2⟩
  | .ret e, h => E.Lk.imp hP hG e h
  | .append _ e, h => E.Lk.imp hP hG e h
  | .extend _ e, h => E.Lk.imp hP hG e h
  | .put _ k e, h => ⟨E.Lk.imp hP hG k h.1, E.Lk.imp hP hG e h.2⟩
  | .puti _ k e, h => ⟨E.Lk.imp hP hG k h.1, E.Lk.imp hP hG e h.2⟩
  | .raise c, h => hZ c h
  | .skip, _ => trivial
  | .asgv _ _, _ => trivial
  | .retv _, _ => trivial
  | .ret0, _ => trivial
  | .brk, _ => trivial
  | .cnt, _ => trivial
  | .frz _, _ => trivial
/-- the module's defs, constants and classes -/
structure Md where
  P : Program
  w : World
  K : PySem.W.Frag
  mg : Str → Option Value
  base : Heap
  cls : Str → Option Addr
def Md.cl (M : Md) : Cl := ⟨M.cls, M.K⟩
def DefOk (M : Md) (k : Nat) (x : Str) (f : Fn) : Prop := ∃ fa fd ps, FnOk M.P M.w M.K M.mg M.base (L2.CX M.P M.w) k fa fd ps (spF M.cl f) ∧ M.mg x = some (.ref fa) ∧ PySem.W.keepIn M.K (.ref fa) = true ∧ Binds M.K fd ps []
def GlbK (M : Md) (x : Str) (d : VS.D) : Prop := ∃ u v, M.mg x = some u ∧ RelV v u ∧ ∀ g, Rep g d v
def RaiseK (M : Md) (c : Str) : Prop := ∃ Ca bmB B newId initId, M.cl c = some Ca ∧ ExcBaseFacts B newId initId bmB ∧ PySem.W.excIn M.K Ca bmB newId = true ∧ M.mg c = some (.ref Ca) ∧ PySem.W.keepIn M.K (.ref Ca) = true ∧
  (PySem.W.subIn M.K (.ref Ca) (.type "BaseException") = some true ∧ PySem.W.typeIn M.K (.ref Ca) = some (.type "type"))
theorem DefOk.mono {M : Md} {k j : Nat} {x : Str} {f : Fn} (h : DefOk M k x f) (hk : k ≤ j) : DefOk M j x f := by
  obtain ⟨fa, fd, ps, F, h1, h2, h3⟩ := h
  exact ⟨fa, fd, ps, F.mono hk, h1, h2, h3⟩
theorem slots_of {g : Gh} {fr : PL} : ∀ {rs : List R} {vs : List V} {l : PL}, Ress g rs vs l fr → ∃ l', l'.Perm l ∧ Slots g fr (rs.map some) (vs.map some) l'
  | [], vs, l, h => by
    obtain ⟨rfl, rfl⟩ := h
    exact ⟨[], .refl _, rfl, rfl⟩
  | r :: rs, vs, l, h => by
    obtain ⟨v, t, l1, l2, rfl, rfl, q1, q2⟩ := h
    obtain ⟨l', p, s⟩ := slots_of q2
    exact ⟨l1 ++ l', List.perm_append_comm.trans (p.append_right l1), some v, t.map some, l1, l', rfl, rfl, ⟨v, rfl, q1⟩, s⟩
theorem slots_more {g : Gh} {fr : PL} {n : Nat} : ∀ {ρ : Env} {σ : L2.St} {l : PL}, Slots g fr ρ σ l → Slots g fr (ρ ++ List.replicate n none) (σ ++ List.replicate n none) l
  | [], σ, l, h => by
    obtain ⟨rfl, rfl⟩ := h
    simp only [List.nil_append]
    induction n with
    | zero => exact ⟨rfl, rfl⟩
    | succ n ih => exact ⟨none, List.replicate n none, [], [], rfl, rfl, rfl, ih⟩
  | r :: ρ, σ, l, h => by
    obtain ⟨o, t, l1, l2, rfl, rfl, q1, q2⟩ := h
    exact ⟨o, t ++ List.replicate n none, l1, l2, rfl, rfl, q1, slots_more q2⟩
/-- THE RULE of a def -/
theorem def_ok {M : Md} {x qual : Str} {st : Stmt} {f : Addr} {fd : FuncData} {N ps : List Str} {k fu : Nat} {body : S} (F : Fun M.K x qual st f fd) (Sc : FnScope N ps (defScope st)) (hb : ∀ n ∈ bnames, M.mg n = none)
    (hck : ckB N (defScope st) body (defBody st) = true) (hlk : body.Lk (DefOk M k) (GlbK M) (RaiseK M)) : FnOk M.P M.w M.K M.mg M.base (L2.CX M.P M.w) (k + 1) f fd ps (spF M.cl (run fu N.length body ps.length)) := by
  refine Fun.okX F Sc (fun vs H Q E ⟨g, rs, m, ls, fr, h1, _, h3⟩ => ?_) fun cdv A outer s H vs Q E hr hsp => ?_
  · rw [h1.length]
    by_cases hlen : rs.length = ps.length
    · exact hlen
    · rw [run_neg hlen] at h3
      exact h3.elim
  obtain ⟨g, rs, m, ls, fr, h1, ⟨lc, cc, G⟩, h3⟩ := hsp
  refine ⟨tS M.cl (fun cls d _ H => E cls d H) fu body, ?_, ?_⟩
  · have C : CtxS (cxOf (L2.CX M.P M.w) M.P M.w M.K M.mg M.base N qual (defScope st) f cdv A outer s H E) (fun cls d _ H => E cls d H) N (defScope st) :=
      { calm := rfl, hN := rfl, nd := Sc.nd, hsc := rfl, tk := takes_of rfl rfl rfl rfl, un := by have := hr.un; show (A.deeper _).units + 200 < cLine; omega, bn := hb, fn := fun _ => rfl, po := passes_of rfl }
    refine (sndS body).pb C (S.Lk.imp (fun y f' h => ?_) (fun y d h => h) (fun y h => ?_) body hlk) hck
    · obtain ⟨fa, fd', ps', F', e1, e2, e3⟩ := h
      exact ⟨k, fa, fd', ps', F', hr, e1, e2, e3⟩
    · obtain ⟨Ca, bmB, B, newId, initId, e1, e2, e3, e4, e5, e6, e7⟩ := h
      exact ⟨Ca, bmB, B, newId, initId, e1, e2, e3, e4, e5, raises_own e6 e7⟩
  · by_cases hlen : rs.length = ps.length
    · rw [run_pos hlen] at h3
      obtain ⟨l', p, sl⟩ := slots_of h1
      have hv : vs.length = rs.length := h1.length
      have s2 := slots_more (n := N.length - rs.length) sl
      refine ⟨g, rs.map some ++ List.replicate (N.length - rs.length) none, m, l', [], fr, ⟨?_, lc, cc, ?_⟩, ?_⟩
      · unfold L2.start
        rw [hv]
        exact s2
      · rw [List.nil_append]
        exact G.perm (p.symm.append_right _)
      · cases e : ex fu body (rs.map some ++ List.replicate (N.length - rs.length) none) m with
        | ret r m1 =>
          rw [e] at h3
          exact fun v g' H' l le res ⟨lc', cc', G'⟩ => h3 v g' H' l le res ⟨lc', cc', G'⟩
        | nx ρ1 m1 =>
          rw [e] at h3
          intro σ' g' ls' H' le R'
          obtain ⟨_, lc', cc', G'⟩ := R'
          refine h3 .non g' H' [] le (res_p (by simp only [Rep])) ⟨lc', cc', G'.re (l0 := ls') fun f => ?_⟩
          simp only [List.map_append, List.sum_append_nat, List.map_nil, List.sum_nil]
          omega
        | exc c ρ1 m1 =>
          rw [e] at h3
          obtain ⟨C, hC, q⟩ := h3
          refine ⟨C, hC, fun σ' g' ls' H' le R' => ?_⟩
          obtain ⟨_, lc', cc', G'⟩ := R'
          refine q g' H' le ⟨lc', cc', G'.re (l0 := ls') fun f => ?_⟩
          simp only [List.map_append, List.sum_append_nat, List.map_nil, List.sum_nil]
          omega
        | brk ρ1 m1 => rw [e] at h3; exact h3.elim
        | cnt ρ1 m1 => rw [e] at h3; exact h3.elim
        | bad => rw [e] at h3; exact h3.elim
    · rw [run_neg hlen] at h3
      exact h3.elim
end VS

/-! VSx: a cell of the script. -/
namespace VS
open PySem PySem.Spec PyProof.Rows L2
theorem Good.more {B : Hp} {P : PL} {H : Hp} {a : Addr} {o : HO} (G : Good B P H) (hn : H a = none) (hp : priv o = true) : Good B P (upd H a o) := (G.new hn hp).tail (l := [(a, o)])
theorem sIx_nat {n k d : Nat} : HT.sIx n d (some (k : Int)) = min k n := by
  unfold HT.sIx
  simp
  try omega
theorem acc_val {ns : List Int} {k : Int} (h : 0 ≤ k) : atI (cutV (ns.map V.int) (some k) (some (k + 1)) ++ [V.int 0]) 0 = some (.int (ns.getD k.toNat 0)) := by
  obtain ⟨n, rfl⟩ : ∃ n : Nat, k = (n : Int) := ⟨k.toNat, by omega⟩
  have e1 : ((n : Int) + 1) = ((n + 1 : Nat) : Int) := by omega
  unfold cutV
  rw [e1, sIx_nat, sIx_nat, List.length_map]
  unfold atI ixN
  simp only [Int.toNat_natCast]
  by_cases hn : n < ns.length
  · have e2 : min n ns.length = n := by omega
    have e3 : min (n + 1) ns.length - n = 1 := by omega
    rw [e2, e3]
    have e4 : ((ns.map V.int).drop n).take 1 = [V.int ns[n]] := by
      rw [List.drop_eq_getElem_cons (by simpa using hn)]
      simp
    rw [e4]
    simp [List.getD_eq_getElem?_getD, hn]
  · have e2 : min n ns.length = ns.length := by omega
    have e3 : min (n + 1) ns.length - ns.length = 0 := by omega
    rw [e2, e3]
    simp [List.getD_eq_getElem?_getD, hn]
theorem cut_one {xs : List V} {k : Int} (h : 0 ≤ k) : (cutV xs (some k) (some (k + 1))).length ≤ 1 := by
  obtain ⟨n, rfl⟩ : ∃ n : Nat, k = (n : Int) := ⟨k.toNat, by omega⟩
  have e1 : ((n : Int) + 1) = ((n + 1 : Nat) : Int) := by omega
  unfold cutV
  rw [e1, sIx_nat, sIx_nat, List.length_take]
  omega
theorem acc_ok {M : Md} {x qual s kk : Str} {st : Stmt} {f : Addr} {fd : FuncData} {p1 p2 p3 p4 p5 p6 p7 p8 p9 p10 p11 p12 p13 : Pos} {j1 j2 j3 : Nat} (F : Fun M.K x qual st f fd) (Sc : FnScope [s, kk] [s, kk] (defScope st)) (hs : okName s = true) (hk : okName kk = true)
    (hb : defBody st = [.Return (some (.Subscript (.BinOp (.Subscript (.Name s p1) (.Slice (some (.Name kk p2)) (some (.BinOp (.Name kk p3) .Add (.Constant (.int 1) j1 p4) p5)) none p6) p7) .Add (.List [.Constant (.int 0) j2 p8] p9) p10) (.Constant (.int 0) j3 p11) p12)) p13]) :
    FnOk M.P M.w M.K M.mg M.base (L2.CX M.P M.w) 1 f fd [s, kk] (spF M.cl accF) := by
  have bad : ∀ {rs : List R} {m : Mem}, accF rs m ≠ .bad → ∃ (r q : R) (ns : List Int) (k : Int), rs = [r, q] ∧ r.f = .d (.scr ns) ∧ q.f = .d (.int k) ∧ 0 ≤ k ∧ accF rs m = .ok (.p (.int (ns.getD k.toNat 0))) m := by
    intro rs m h
    unfold accF at h
    split at h
    · rename_i r q
      split at h
      · rename_i ns k e1 e2
        split at h
        · rename_i hk
          refine ⟨r, q, ns, k, rfl, e1, e2, hk, ?_⟩
          have z : accF [r, q] m = (match r.f, q.f with
            | .d (.scr ns), .d (.int k) => if 0 ≤ k then .ok (.p (.int (ns.getD k.toNat 0))) m else .bad
            | _, _ => .bad) := rfl
          rw [z, e1, e2]
          exact if_pos hk
        · exact absurd rfl h
      · exact absurd rfl h
    · exact absurd rfl h
  have get : ∀ {vs : List V} {H : Hp} {Q : VK} {E : XK}, spF M.cl accF vs H Q E → ∃ (g : Gh) (a : Addr) (ns : List Int) (k : Int) (m : Mem) (fr lc : PL), vs = [.ref a, .int k] ∧ 0 ≤ k ∧ SqL M.K H a (ns.map V.int) ∧ Cells M.cl g m g.as lc ∧ Good g.B (lc ++ fr) H ∧ ∀ v g' H' l, g.le g' → ResR g' (.p (.int (ns.getD k.toNat 0))) v l [] → (∃ lc, Cells M.cl g' m g'.as lc ∧ Good g'.B (l ++ (lc ++ fr)) H') → Q v H' := by
    intro vs H Q E ⟨g, rs, m, ls, fr, h1, ⟨lc, cc, G⟩, h3⟩
    have hn : accF rs m ≠ .bad := fun z => by rw [z] at h3; exact h3
    obtain ⟨r, q, ns, k, rfl, e1, e2, hk, e3⟩ := bad hn
    rw [e3] at h3
    obtain ⟨v, u, l1, l2, rfl, rfl, q1, q2⟩ := ress2' h1
    have r1 := res_rep q1 e1
    simp only [Rep] at r1
    obtain ⟨a, rfl, r1⟩ := r1
    refine ⟨g, a, ns, k, m, fr, lc, by rw [res_int q2 e2], hk, ?_, cc, G.tail, h3⟩
    rcases r1 with r1 | r1
    · exact .inl (rd_lst G r1)
    · have e : g.as.K = M.K := cc.2
      rw [e] at r1
      exact .inr r1
  refine Fun.okX F Sc (fun vs H Q E h => ?_) fun cdv A outer sh H vs Q E hr h => ?_
  · obtain ⟨g, a, ns, k, m, fr, lc, rfl, _⟩ := get h
    rfl
  obtain ⟨g, a, ns, k, m, fr, lc, rfl, hk0, hS, cc, G, q⟩ := get h
  rw [hb]
  have nN : ∀ i n, [s, kk][i]? = some n → (defScope st).names.lookup n = some .local ∨ (defScope st).names.lookup n = some .cell := fun i n e => Sc.par n (List.mem_of_getElem? e)
  have vs0 : ∀ {p : Pos}, PE (cxOf (L2.CX M.P M.w) M.P M.w M.K M.mg M.base [s, kk] qual (defScope st) f cdv A outer sh H E) (.Name s p) (tVar 0) := fun {p} => pe_var (i := 0) rfl ((nN 0 s rfl).elim .inl fun z => .inr (.inl z)) (CtxOk.dn hs).1 (CtxOk.dn hs).2.1
  have vs1 : ∀ {p : Pos}, PE (cxOf (L2.CX M.P M.w) M.P M.w M.K M.mg M.base [s, kk] qual (defScope st) f cdv A outer sh H E) (.Name kk p) (tVar 1) := fun {p} => pe_var (i := 1) rfl ((nN 1 kk rfl).elim .inl fun z => .inr (.inl z)) (CtxOk.dn hk).1 (CtxOk.dn hk).2.1
  refine ⟨_, pss_one (ps_ret (pe_ix ix_list (pe_op op_cat (pe_slice sl_list vs0 (po_some vs1) (po_some (pe_op op_add vs1 pe_int))) (pe_lst (pa_cons pe_int pa_nil))) pe_int (fun _ _ => rfl))), ?_⟩
  refine ⟨.ref a, rfl, .int k, rfl, k, rfl, .int k, rfl, k, 1, rfl, rfl, k + 1, rfl, a, ns.map V.int, rfl, hS, fun b hb => ?_⟩
  refine ⟨by show 1 ≤ sizeLine; rw [← sizeB_eq]; decide, fun c hc => ?_⟩
  have hcb : b ≠ c := fun z => by subst z; rw [upd_same] at hc; cases hc
  refine ⟨b, c, _, _, rfl, rfl, by rw [upd_ne hcb, upd_same], upd_same, ?_, fun d hd => ?_⟩
  · have := cut_one (xs := ns.map V.int) hk0
    have h2 : 2 ≤ sizeLine := by rw [← sizeB_eq]; decide
    simp only [List.length_singleton]
    omega
  · refine ⟨d, _, 0, _, rfl, rfl, .inl (.inl upd_same), acc_val hk0, ?_⟩
    exact q _ g _ [] (.refl g) (res_p (by simp only [Rep])) ⟨lc, cc, ((G.more hb rfl).more hc rfl).more hd rfl⟩
end VS

/-! VSz: the end of a law. -/
namespace VS
open PySem PySem.Spec PyProof.Rows L2
theorem walk_ofX {l : PySem.W.OpenLaw} {n k : Nat} {q : Program} {loose : List Str} {XP : (Str → Option Value) → Heap → Prop} {YP : World → Heap → Prop} {d : DefRec} {CX : World → CXT} {x : Str}
    (hn : l.most = some n) (hn2 : n ≤ sizeLine) (hdf : d.params.defaults = []) (hr : Room k callerA)
    (F : ∀ (w : World) (mg : Str → Option Value) (fa : Addr) (h : Heap), YP w h → h.Ns mainGlobals mg → mg d.name = some (.ref fa) →
      ∃ (K : PySem.W.Frag) (fd : FuncData) (sp : Sp), K.In h ∧ (∀ (s : Shared) (u : Value), BindsTo s fd ⟨[u], []⟩ [(x, u)]) ∧
        (∀ (H : Hp) (a : Addr) (ns : List Int), ns.length ≤ n → Only H → SqL K H a (ns.map V.int) → sp [.ref a] H (fun v _ => v = .bl true) fun _ _ _ => False) ∧
        ∀ base : Heap, K.In base → base.Ns mainGlobals mg → FnOk l.prog w K mg base (CX w) k fa fd [x] sp)
    (hCX : ∀ (w : World) (H : Hp) (s : Shared) (e : Value) (s' : Shared), CX w [] H s (fun _ _ _ => False) e s' → False) :
    PySem.W.WalkO q loose XP YP l.row.toRowW d [] (fun f vs => PySem.call f vs) := by
  refine Att.attach_call hn hdf fun w s₀ s₁ mg mb fa o pm cd doc a vs ns G Y ho hd hcd hmg hobj hints hlen hg => ?_
  obtain ⟨K, fd, sp, KX, hb, hsp, hF⟩ := F w mg fa _ Y G.T.g hmg
  exact law_call KX G.T.g G.T.b G.T.builtins G.T.nolimit hg hobj hints (Nat.le_trans hlen hn2) hr hF hb (fun H hO hS => hsp H a ns hlen hO hS) fun H e s' => hCX w H s₁ e s'
theorem noCX {P : Program} : ∀ (w : World) (H : Hp) (s : Shared) (e : Value) (s' : Shared), L2.CX P w [] H s (fun _ _ _ => False) e s' → False := fun w H s e s' h => by
  obtain ⟨_, _, _, _, _, _, _, _, _, _, _, _, z⟩ := h
  exact z.elim
theorem sp_law {K : PySem.W.Frag} {cls : Str → Option Addr} {f : Fn} {ns : List Int} {H : Hp} {a : Addr} (hf : f [.v (.d (.scr ns))] [] = .ok (.p (.bl true)) []) (hO : Only H) (hS : SqL K H a (ns.map V.int)) : spF ⟨cls, K⟩ f [.ref a] H (fun v _ => v = .bl true) fun _ _ _ => False := by
  refine ⟨⟨H, ⟨[], K⟩⟩, [.v (.d (.scr ns))], [], [], [], ress1 (res_p ?_), ⟨[], ⟨⟨rfl, rfl⟩, rfl⟩, ⟨by simp, by simp, fun b o e => .inl e, fun b o u e => ?_⟩⟩, ?_⟩
  · simp only [Rep]
    exact ⟨a, rfl, hS⟩
  · replace e : H b = some (.frz o u) := e
    rcases hO b with z | ⟨ob, xs, z⟩
    · rw [z] at e; cases e
    · rw [z] at e; cases e; rfl
  · rw [hf]
    intro v g' H' l le res _
    exact rep_bl (res_rep res rfl)
end VS

/-! the texts of the defs of law_k09_tests -/
namespace Lk09
open PySem VS

def c_MOST_SIGNS : VS.D := (.int 8)
def c_MOST_NUMBER : VS.D := (.int 999999999)
def c_SMALL : VS.D := (.str "abcdefghijklmnopqrstuvwxyz")
def c_GREAT : VS.D := (.str "ABCDEFGHIJKLMNOPQRSTUVWXYZ")
def b_is_small : S := (.seq (.frz 0)
    (.seq (.for (.nm 1) .plain (.cons (.var 0) .no)
    (.seq (.ifs (.cmp .NotIn (.var 1) (.glb "SMALL" c_SMALL))
    (.seq (.ret (.cst (.bl false)))
    .skip)
    .skip)
    .skip))
    (.seq (.ret (.cst (.bl true)))
    .skip)))
def f_is_small : Fn := run 1000 2 b_is_small 1
def b_is_free : S := (.seq (.frz 0)
    (.seq (.ifs (.or (.not (.isi (.var 0) .str)) (.not (.cmp2 .LtE .LtE (.cst (.int 1)) (.bi .len (.cons (.var 0) .no)) (.glb "MOST_SIGNS" c_MOST_SIGNS))))
    (.seq (.ret (.cst (.bl false)))
    .skip)
    .skip)
    (.seq (.ret (.and (.cmp .In (.sub (.var 0) (.cst (.int 0))) (.glb "GREAT" c_GREAT)) (.call "is_small" f_is_small (.cons (.slice (.var 0) (.cst (.int 1)) .no) .no))))
    .skip)))
def f_is_free : Fn := run 1000 1 b_is_free 1
def b_is_number : S := (.seq (.frz 0)
    (.seq (.ifs (.or (.not (.isi (.var 0) .int)) (.isi (.var 0) .bool))
    (.seq (.ret (.cst (.bl false)))
    .skip)
    .skip)
    (.seq (.ret (.cmp2 .LtE .LtE (.neg (.glb "MOST_NUMBER" c_MOST_NUMBER)) (.var 0) (.glb "MOST_NUMBER" c_MOST_NUMBER)))
    .skip)))
def f_is_number : Fn := run 1000 1 b_is_number 1
def b_value_of : S := (.seq (.frz 0)
    (.seq (.frz 1)
    (.seq (.ifs (.call "is_free" f_is_free (.cons (.var 0) .no))
    (.seq (.ret (.mth .get1 (.var 1) (.cons (.var 0) .no)))
    .skip)
    .skip)
    (.seq (.ret (.var 0))
    .skip))))
def f_value_of : Fn := run 1000 2 b_value_of 2
def b_summed_of : S := (.seq (.frz 0)
    (.seq (.frz 1)
    (.seq (.frz 2)
    (.seq (.frz 3)
    (.seq (.asg 4 (.frz (.bin .Add (.var 2) (.var 3))))
    (.seq (.ifs (.not (.call "is_number" f_is_number (.cons (.var 4) .no)))
    (.seq (.ret (.cst .non))
    .skip)
    .skip)
    (.seq (.asg 5 (.frz (.call "value_of" f_value_of (.cons (.sub (.var 0) (.cst (.int 3))) (.cons (.var 1) .no)))))
    (.seq (.ifs (.cmp .Is (.var 5) (.cst .non))
    (.seq (.asg 6 (.bi .dict (.cons (.var 1) .no)))
    (.seq (.put 6 (.sub (.var 0) (.cst (.int 3))) (.frz (.var 4)))
    (.seq (.retv 6)
    .skip)))
    .skip)
    (.seq (.ifs (.cmp .NotEq (.var 5) (.var 4))
    (.seq (.ret (.cst .non))
    .skip)
    .skip)
    (.seq (.ret (.bi .dict (.cons (.var 1) .no)))
    .skip))))))))))
def f_summed_of : Fn := run 1000 7 b_summed_of 4
def b_tested : S := (.seq (.frz 0)
    (.seq (.frz 1)
    (.seq (.asg 2 (.frz (.call "value_of" f_value_of (.cons (.sub (.var 0) (.cst (.int 1))) (.cons (.var 1) .no)))))
    (.seq (.asg 3 (.frz (.call "value_of" f_value_of (.cons (.sub (.var 0) (.cst (.int 2))) (.cons (.var 1) .no)))))
    (.seq (.ifs (.cmp .Eq (.sub (.var 0) (.cst (.int 0))) (.cst (.str "same")))
    (.seq (.ifs (.cmp .NotEq (.var 2) (.var 3))
    (.seq (.ret (.cst .non))
    .skip)
    .skip)
    (.seq (.ret (.bi .dict (.cons (.var 1) .no)))
    .skip))
    .skip)
    (.seq (.ifs (.or (.not (.call "is_number" f_is_number (.cons (.var 2) .no))) (.not (.call "is_number" f_is_number (.cons (.var 3) .no))))
    (.seq (.ret (.cst .non))
    .skip)
    .skip)
    (.seq (.ifs (.cmp .Eq (.sub (.var 0) (.cst (.int 0))) (.cst (.str "plus")))
    (.seq (.ret (.call "summed_of" f_summed_of (.cons (.var 0) (.cons (.var 1) (.cons (.var 2) (.cons (.var 3) .no))))))
    .skip)
    .skip)
    (.seq (.ifs (.cmp .GtE (.var 2) (.var 3))
    (.seq (.ret (.cst .non))
    .skip)
    .skip)
    (.seq (.ret (.bi .dict (.cons (.var 1) .no)))
    .skip)))))))))
def f_tested : Fn := run 1000 4 b_tested 2
abbrev f__law_of : Fn := accF
def b__law_names : S := (.seq (.frz 0)
    (.seq (.frz 1)
    (.seq (.asg 2 (.frz (.cst (.str "abcdefghijklmnopqrstuvwxy"))))
    (.seq (.asg 3 (.lst .no))
    (.seq (.for (.nm 4) .range1 (.cons (.var 1) .no)
    (.seq (.asg 5 (.frz (.bin .Add (.bin .FloorDiv (.var 0) (.cst (.int 2))) (.bin .Mult (.bin .Mult (.var 4) (.cst (.int 48271))) (.bin .Mod (.var 0) (.cst (.int 2)))))))
    (.seq (.asg 6 (.frz (.mth .join (.cst (.str "")) (.cons (.comp (.sub (.var 2) (.bin .Mod (.bin .Add (.bin .FloorDiv (.var 5) (.cst (.int 7))) (.bin .Mult (.cst (.int 6)) (.var 7))) (.cst (.int 25)))) (.nm 7) .range1 (.cons (.bin .Mod (.var 5) (.cst (.int 7))) .no) .no [("_law_j", 7)]) .no))))
    (.seq (.asg 8 (.frz (.bin .Mod (.bin .FloorDiv (.var 5) (.cst (.int 175))) (.bin .Add (.bi .len (.cons (.var 6) .no)) (.cst (.int 1))))))
    (.seq (.append 3 (.frz (.bin .Add (.bin .Add (.bin .Add (.slice (.var 6) .no (.var 8)) (.cst (.str "z"))) (.sub (.var 2) (.var 4))) (.slice (.var 6) (.var 8) .no))))
    .skip)))))
    (.seq (.for (.nm 4) .range3 (.cons (.cst (.int 0)) (.cons (.bin .Sub (.var 1) (.cst (.int 1))) (.cons (.cst (.int 3)) .no)))
    (.seq (.ifs (.and (.cmp .Eq (.bin .Mod (.var 0) (.cst (.int 5))) (.cst (.int 3))) (.cmp .NotIn (.rev false (.sub (.var 3) (.var 4))) (.var 3)))
    (.seq (.puti 3 (.bin .Add (.var 4) (.cst (.int 1))) (.frz (.rev false (.sub (.var 3) (.var 4)))))
    .skip)
    .skip)
    .skip))
    (.seq (.retv 3)
    .skip)))))))
def f__law_names : Fn := run 1000 9 b__law_names 2
def b__law_frees : S := (.seq (.frz 0)
    (.seq (.frz 1)
    (.seq (.asg 2 (.frz (.cst (.str "ABCDEFGHIJKLMNOPQRSTUVWXYZ"))))
    (.seq (.asg 3 (.frz (.mth .join (.cst (.str "")) (.cons (.comp (.sub (.cst (.str "abcdefghijklmnopqrstuvwxyz")) (.bin .Mod (.bin .Add (.bin .FloorDiv (.var 0) (.cst (.int 26))) (.bin .Mult (.cst (.int 5)) (.var 4))) (.cst (.int 26)))) (.nm 4) .range1 (.cons (.bin .Mod (.var 0) (.cst (.int 6))) .no) .no [("_law_j", 4)]) .no))))
    (.seq (.asg 5 (.frz (.bin .Mod (.bin .FloorDiv (.var 0) (.cst (.int 6))) (.bin .Add (.bi .len (.cons (.var 3) .no)) (.cst (.int 1))))))
    (.seq (.asg 6 (.frz (.comp (.sub (.var 2) (.bin .Mod (.bin .Add (.var 0) (.bin .Mult (.var 7) (.bin .Mod (.bin .FloorDiv (.var 0) (.cst (.int 156))) (.cst (.int 2))))) (.cst (.int 26)))) (.nm 7) .range1 (.cons (.var 1) .no) .no [("_law_k", 7)])))
    (.seq (.asg 8 (.comp (.bin .Add (.bin .Add (.bin .Add (.sub (.var 6) (.var 7)) (.slice (.var 3) .no (.var 5))) (.sub (.cst (.str "qrstuv")) (.var 7))) (.slice (.var 3) (.var 5) .no)) (.nm 7) .range1 (.cons (.var 1) .no) .no [("_law_k", 7)]))
    (.seq (.ifs (.cmp .Eq (.bin .Mod (.var 0) (.cst (.int 7))) (.cst (.int 3)))
    (.seq (.puti 8 (.cst (.int 1)) (.frz (.bin .Add (.sub (.var 8) (.cst (.int 0))) (.cst (.str "w")))))
    .skip)
    .skip)
    (.seq (.asg 9 (.frz (.bin .Add (.slice (.sub (.var 8) (.cst (.int 0))) .no (.cst (.int 1))) (.rev true (.sub (.var 8) (.cst (.int 0)))))))
    (.seq (.ifs (.and (.cmp .Eq (.bin .Mod (.var 0) (.cst (.int 7))) (.cst (.int 5))) (.cmp .NotIn (.var 9) (.var 8)))
    (.seq (.puti 8 (.cst (.int 1)) (.frz (.var 9)))
    .skip)
    .skip)
    (.seq (.retv 8)
    .skip)))))))))))
def f__law_frees : Fn := run 1000 10 b__law_frees 2
def b__law_value : S := (.seq (.frz 0)
    (.seq (.frz 1)
    (.seq (.ifs (.cmp .Eq (.bin .Mod (.var 1) (.cst (.int 3))) (.cst (.int 0)))
    (.seq (.ret (.bin .Sub (.bin .Mod (.bin .FloorDiv (.var 1) (.cst (.int 3))) (.cst (.int 1999999999))) (.cst (.int 999999999))))
    .skip)
    .skip)
    (.seq (.asg 2 (.frz (.lst (.cons (.cst (.int 0)) (.cons (.cst (.int 1)) (.cons (.cst (.int 2)) (.cons (.cst (.int 3)) (.cons (.neg (.cst (.int 1))) (.cons (.sub (.var 0) (.cst (.int 0))) (.cons (.sub (.var 0) (.cst (.int 1))) (.cons (.sub (.var 0) (.cst (.int 2))) (.cons (.cst (.int 999999999)) (.cons (.neg (.cst (.int 999999999))) (.cons (.cst (.int 500000000)) (.cons (.cst (.int 1)) .no)))))))))))))))
    (.seq (.ret (.sub (.var 2) (.bin .Mod (.bin .FloorDiv (.var 1) (.cst (.int 3))) (.cst (.int 12)))))
    .skip)))))
def f__law_value : Fn := run 1000 3 b__law_value 2
def b__law_term : S := (.seq (.frz 0)
    (.seq (.frz 1)
    (.seq (.frz 2)
    (.seq (.ifs (.cmp .Eq (.bin .Mod (.var 2) (.cst (.int 2))) (.cst (.int 0)))
    (.seq (.ret (.sub (.var 1) (.bin .Mod (.bin .FloorDiv (.var 2) (.cst (.int 2))) (.cst (.int 3)))))
    .skip)
    .skip)
    (.seq (.ret (.call "_law_value" f__law_value (.cons (.var 0) (.cons (.bin .FloorDiv (.var 2) (.cst (.int 2))) .no))))
    .skip)))))
def f__law_term : Fn := run 1000 3 b__law_term 3
def b__law_number : S := (.seq (.frz 0)
    (.seq (.ret (.and (.isi (.var 0) .int) (.cmp2 .LtE .LtE (.neg (.cst (.int 999999999))) (.var 0) (.cst (.int 999999999)))))
    .skip))
def f__law_number : Fn := run 1000 1 b__law_number 1
def b__law_due : S := (.seq (.frz 0)
    (.seq (.frz 1)
    (.seq (.frz 2)
    (.seq (.asg 3 (.frz (.comp (.mth .get2 (.var 1) (.cons (.var 4) (.cons (.var 4) .no))) (.nm 4) .plain (.cons (.slice (.var 0) (.cst (.int 1)) .no) .no) .no [("_law_term_here", 4)])))
    (.seq (.ifs (.cmp .Eq (.sub (.var 0) (.cst (.int 0))) (.cst (.str "same")))
    (.seq (.ret (.ifx (.cmp .Eq (.sub (.var 3) (.cst (.int 0))) (.sub (.var 3) (.cst (.int 1)))) (.bi .dict (.cons (.var 1) .no)) (.cst .non)))
    .skip)
    .skip)
    (.seq (.ifs (.or (.not (.call "_law_number" f__law_number (.cons (.sub (.var 3) (.cst (.int 0))) .no))) (.not (.call "_law_number" f__law_number (.cons (.sub (.var 3) (.cst (.int 1))) .no))))
    (.seq (.ret (.cst .non))
    .skip)
    .skip)
    (.seq (.ifs (.cmp .Eq (.sub (.var 0) (.cst (.int 0))) (.cst (.str "less")))
    (.seq (.ret (.ifx (.cmp .Lt (.sub (.var 3) (.cst (.int 0))) (.sub (.var 3) (.cst (.int 1)))) (.bi .dict (.cons (.var 1) .no)) (.cst .non)))
    .skip)
    .skip)
    (.seq (.asg 5 (.frz (.bin .Add (.sub (.var 3) (.cst (.int 0))) (.sub (.var 3) (.cst (.int 1))))))
    (.seq (.ifs (.not (.call "_law_number" f__law_number (.cons (.var 5) .no)))
    (.seq (.ret (.cst .non))
    .skip)
    .skip)
    (.seq (.ifs (.cmp .Eq (.sub (.var 0) (.cst (.int 3))) (.var 2))
    (.seq (.asg 6 (.bi .dict (.cons (.var 1) .no)))
    (.seq (.put 6 (.var 2) (.frz (.var 5)))
    (.seq (.retv 6)
    .skip)))
    .skip)
    (.seq (.ret (.ifx (.cmp .Eq (.sub (.var 3) (.cst (.int 2))) (.var 5)) (.bi .dict (.cons (.var 1) .no)) (.cst .non)))
    .skip)))))))))))
def f__law_due : Fn := run 1000 7 b__law_due 3
def b_law : S := (.seq (.frz 0)
    (.seq (.asg 1 (.frz (.call "_law_names" f__law_names (.cons (.call "_law_of" f__law_of (.cons (.var 0) (.cons (.cst (.int 7)) .no))) (.cons (.cst (.int 3)) .no)))))
    (.seq (.asg 2 (.frz (.call "_law_frees" f__law_frees (.cons (.call "_law_of" f__law_of (.cons (.var 0) (.cons (.cst (.int 8)) .no))) (.cons (.cst (.int 4)) .no)))))
    (.seq (.asg 3 .dnew)
    (.seq (.for (.nm 4) .range1 (.cons (.cst (.int 3)) .no)
    (.seq (.put 3 (.sub (.var 2) (.var 4)) (.frz (.call "_law_value" f__law_value (.cons (.var 1) (.cons (.call "_law_of" f__law_of (.cons (.var 0) (.cons (.bin .Add (.cst (.int 1)) (.var 4)) .no))) .no)))))
    .skip))
    (.seq (.asg 5 (.frz (.sub (.lst (.cons (.cst (.str "less")) (.cons (.cst (.str "same")) (.cons (.cst (.str "plus")) (.cons (.cst (.str "plus")) .no))))) (.bin .Mod (.call "_law_of" f__law_of (.cons (.var 0) (.cons (.cst (.int 0)) .no))) (.cst (.int 4))))))
    (.seq (.asg 6 (.frz (.tup (.cons (.var 5) (.cons (.call "_law_term" f__law_term (.cons (.var 1) (.cons (.var 2) (.cons (.call "_law_of" f__law_of (.cons (.var 0) (.cons (.cst (.int 4)) .no))) .no)))) (.cons (.call "_law_term" f__law_term (.cons (.var 1) (.cons (.var 2) (.cons (.call "_law_of" f__law_of (.cons (.var 0) (.cons (.cst (.int 5)) .no))) .no)))) .no))))))
    (.seq (.ifs (.cmp .Eq (.var 5) (.cst (.str "plus")))
    (.seq (.asg 7 (.frz (.call "_law_term" f__law_term (.cons (.var 1) (.cons (.var 2) (.cons (.call "_law_of" f__law_of (.cons (.var 0) (.cons (.cst (.int 6)) .no))) .no))))))
    (.seq (.asg 8 (.frz (.comp (.mth .get2 (.var 3) (.cons (.var 9) (.cons (.var 9) .no))) (.nm 9) .plain (.cons (.slice (.var 6) (.cst (.int 1)) .no) .no) .no [("_law_term_here", 9)])))
    (.seq (.asg 10 (.frz (.bin .Mod (.bin .FloorDiv (.call "_law_of" f__law_of (.cons (.var 0) (.cons (.cst (.int 0)) .no))) (.cst (.int 4))) (.cst (.int 6)))))
    (.seq (.ifs (.cmp .Lt (.var 10) (.cst (.int 2)))
    (.seq (.asg 7 (.frz (.sub (.var 2) (.cst (.int 3)))))
    .skip)
    .skip)
    (.seq (.ifs (.and (.cmp2 .Lt .Lt (.cst (.int 1)) (.var 10) (.cst (.int 4))) (.and (.call "_law_number" f__law_number (.cons (.sub (.var 8) (.cst (.int 0))) .no)) (.and (.call "_law_number" f__law_number (.cons (.sub (.var 8) (.cst (.int 1))) .no)) (.call "_law_number" f__law_number (.cons (.bi .sum (.cons (.var 8) .no)) .no)))))
    (.seq (.asg 7 (.frz (.sub (.lst (.cons (.bi .sum (.cons (.var 8) .no)) (.cons (.bi .max2 (.cons (.neg (.cst (.int 999999999))) (.cons (.bin .Sub (.bi .sum (.cons (.var 8) .no)) (.cst (.int 1))) .no))) .no))) (.bin .Sub (.var 10) (.cst (.int 2))))))
    .skip)
    .skip)
    (.seq (.asg 6 (.frz (.bin .Add (.var 6) (.tup (.cons (.var 7) .no)))))
    .skip))))))
    .skip)
    (.seq (.asg 11 (.frz (.bi .dict (.cons (.var 3) .no))))
    (.seq (.asg 12 (.frz (.call "_law_due" f__law_due (.cons (.var 6) (.cons (.var 3) (.cons (.sub (.var 2) (.cst (.int 3))) .no))))))
    (.seq (.asg 13 (.call "tested" f_tested (.cons (.var 6) (.cons (.var 11) .no))))
    (.seq (.ifs (.cmp .NotEq (.var 11) (.var 3))
    (.seq (.ret (.cst (.bl false)))
    .skip)
    .skip)
    (.seq (.ifs (.cmp .Is (.var 12) (.cst .non))
    (.seq (.ret (.cmp .Is (.var 13) (.cst .non)))
    .skip)
    .skip)
    (.seq (.ifs (.or (.not (.isi (.var 13) .dict)) (.cmp .NotEq (.var 13) (.var 12)))
    (.seq (.ret (.cst (.bl false)))
    .skip)
    .skip)
    (.seq (.put 13 (.cst (.str "Z")) (.frz (.cst (.int 0))))
    (.seq (.ret (.and (.cmp .Eq (.var 11) (.var 3)) (.cmp .Eq (.call "tested" f_tested (.cons (.var 6) (.cons (.var 11) .no))) (.var 12))))
    .skip))))))))))))))))
def f_law : Fn := run 1000 14 b_law 1
end Lk09

namespace Lk09
open PySem VS
theorem ty1 : (Ty.bool == Ty.int) = false := rfl
theorem ty2 : (Ty.int == Ty.int) = true := rfl
theorem ty3 : (Ty.str == Ty.str) = true := rfl
theorem ty4 : (Ty.str == Ty.int) = false := rfl
theorem ty5 : (Ty.int == Ty.str) = false := rfl
theorem ty6 : (Ty.bool == Ty.str) = false := rfl
theorem ty7 : (Ty.int == Ty.bool) = false := rfl
theorem ty8 : (Ty.str == Ty.bool) = false := rfl
theorem ty9 : (Ty.dict == Ty.dict) = true := rfl
theorem num_int (i : Int) (m : Mem) : f_is_number [.p (.int i)] m = .ok (.p (.bl (decide (-999999999 ≤ i) && decide (i ≤ 999999999)))) m := by
  simp [f_is_number, VS.run, b_is_number, ex, ev, evs, Out.bind, Out.so, Out.of, isiS, isTr, R.data, R.f, F.data, cmpS, R.pd, negS, c_MOST_NUMBER, ty1, ty2, ty3, ty4, ty5, ty6, ty7, ty8]
  by_cases h : -999999999 ≤ i <;> simp [h]
theorem num_str (z : Str) (m : Mem) : f_is_number [.p (.str z)] m = .ok (.p (.bl false)) m := by
  simp [f_is_number, VS.run, b_is_number, ex, ev, evs, Out.bind, Out.so, Out.of, isiS, isTr, R.data, R.f, F.data, cmpS, R.pd, negS, c_MOST_NUMBER, ty1, ty2, ty3, ty4, ty5, ty6, ty7, ty8]
/-- a sign of a text -/
def sg (c : Nat) : Str := ⟨#[c]⟩
def isIn (y : Str) (c : Nat) : Bool := !(Builtin.Str.occurrences y (sg c) 0 y.length 1).isEmpty
def gSMALL : Str := "abcdefghijklmnopqrstuvwxyz"
def gGREAT : Str := "ABCDEFGHIJKLMNOPQRSTUVWXYZ"
theorem small_loop {body : VS.Env → Mem → SO} {a : Option R} {m : Mem} (h : ∀ c, body [a, some (.p (.str (sg c)))] m = if isIn gSMALL c then .nx [a, some (.p (.str (sg c)))] m else .ret (.p (.bl false)) m) : ∀ (l : List Nat) (x : Option R), ∃ y, forL body (.nm 1) (l.map fun c => .str (sg c)) [a, x] m =
    if l.all (isIn gSMALL) then .nx [a, y] m else .ret (.p (.bl false)) m
  | [], x => ⟨x, rfl⟩
  | c :: l, x => by
    obtain ⟨y, ih⟩ := small_loop h l (some (.p (.str (sg c))))
    refine ⟨y, ?_⟩
    have e1 : setTg (.nm 1) (.str (sg c)) [a, x] = some [a, some (.p (.str (sg c)))] := rfl
    have hb := h c
    cases hc : isIn gSMALL c with
    | false =>
      rw [hc, if_neg Bool.false_ne_true] at hb
      simp only [List.map_cons, forL, e1, hb, List.all_cons, hc, Bool.false_and, Bool.false_eq_true, if_false]
    | true =>
      rw [hc, if_pos rfl] at hb
      simp only [List.map_cons, forL, e1, hb, List.all_cons, hc, Bool.true_and, ih]
theorem small_ok (z : Str) (hz : z.length ≤ sizeB) (m : Mem) : f_is_small [.p (.str z)] m = .ok (.p (.bl (z.cps.toList.all (isIn gSMALL)))) m := by
  have hs : ∀ (a : Option R) (c : Nat), ex 1000 (.seq (.ifs (.cmp .NotIn (.var 1) (.glb "SMALL" c_SMALL)) (.seq (.ret (.cst (.bl false))) .skip) .skip) .skip) [a, some (.p (.str (sg c)))] m = if isIn gSMALL c then .nx [a, some (.p (.str (sg c)))] m else .ret (.p (.bl false)) m := fun a c => by
    have e : inS (.p (.str (sg c))) (.p c_SMALL) = some (isIn gSMALL c) := rfl
    simp [ex, ev, Out.bind, Out.so, Out.of, cmpS, e, isTr, R.f]
    cases isIn gSMALL c <;> rfl
  obtain ⟨y, h⟩ := small_loop (hs (some (.p (.str z)))) z.cps.toList none
  have e1 : srcO true .plain (evs (.cons (.var 0) .no) [some (.p (.str z)), none] m) = .ok (z.cps.toList.map fun c => .str (sg c)) m := by
    show Out.of (if z.length ≤ sizeB then some (signs z) else none) m = _
    rw [if_pos hz]
    rfl
  refine (run_pos (n := 2) (ps := 1) rfl).trans ?_
  show runX (match (match (srcO true .plain (evs (.cons (.var 0) .no) [some (.p (.str z)), none] m)).so [some (.p (.str z)), none] (fun ds m1 => forL _ (.nm 1) ds [some (.p (.str z)), none] m1) with | .nx ρ1 m1 => ex 1000 (.seq (.ret (.cst (.bl true))) .skip) ρ1 m1 | o => o) with | o => o) = _
  rw [e1]
  show runX (match forL _ (.nm 1) _ _ m with | .nx ρ1 m1 => ex 1000 (.seq (.ret (.cst (.bl true))) .skip) ρ1 m1 | o => o) = _
  rw [h]
  cases z.cps.toList.all (isIn gSMALL) <;> rfl
end Lk09

namespace Lk09
open PySem VS
def isFreeB (z : Str) : Bool := match z.cps.toList with
  | [] => false
  | c :: r => decide (z.length ≤ 8) && (isIn gGREAT c && r.all (isIn gSMALL))
theorem len_list (z : Str) : z.length = z.cps.toList.length := by
  show z.cps.size = _
  simp
theorem cut_tail {z : Str} {c : Nat} {r : List Nat} (h : z.cps.toList = c :: r) : L2.cutS z (some 1) none = ⟨r.toArray⟩ := by
  have hl : z.length = r.length + 1 := by rw [len_list, h, List.length_cons]
  have e1 : HT.sIx z.length 0 (some 1) = 1 := by
    have := HT.sIx_nat z.length 0 1
    have e : ((1 : Nat) : Int) = 1 := rfl
    rw [e] at this
    rw [this]
    omega
  unfold L2.cutS
  rw [e1, HT.sIx_none, hl, h]
  simp
theorem free_int (i : Int) (m : Mem) : f_is_free [.p (.int i)] m = .ok (.p (.bl false)) m := by
  simp [f_is_free, VS.run, b_is_free, ex, ev, evs, Out.bind, Out.so, Out.of, isiS, isTr, R.data, R.f, F.data, ty1, ty2, ty3, ty4, ty5, ty6, ty7, ty8]
theorem free_str (z : Str) (hz : z.length ≤ sizeB) (m : Mem) : f_is_free [.p (.str z)] m = .ok (.p (.bl (isFreeB z))) m := by
  have hlen : biS .len [.p (.str z)] = some (.p (.int z.length)) := by
    show (if z.length ≤ sizeB then some (R.p (.int z.length)) else none) = _
    rw [if_pos hz]
  have hb : isFreeB z = (if 1 ≤ z.length ∧ z.length ≤ 8 then isFreeB z else false) := by
    split
    · rfl
    · rename_i h
      unfold isFreeB
      rw [len_list] at h
      rw [len_list]
      cases e : z.cps.toList with
      | nil => rfl
      | cons c r =>
        rw [e] at h
        have h2 : ¬ (c :: r).length ≤ 8 := fun q => h ⟨by simp, q⟩
        show (decide ((c :: r).length ≤ 8) && _) = false
        rw [decide_eq_false h2, Bool.false_and]
  refine (run_pos (n := 1) (ps := 1) rfl).trans ?_
  by_cases h1 : 1 ≤ z.length
  · by_cases h2 : z.length ≤ 8
    · obtain ⟨c, r, e⟩ : ∃ c r, z.cps.toList = c :: r := by
        cases e : z.cps.toList with
        | nil => rw [len_list, e] at h1; simp at h1
        | cons c r => exact ⟨c, r, rfl⟩
      have i1 : (1 : Int) ≤ (z.length : Int) := by omega
      have i2 : (z.length : Int) ≤ 8 := by omega
      have hs : subS (.p (.str z)) (.p (.int 0)) = some (.p (.str (sg c))) := by
        show (if z.length ≤ sizeB then (L2.atI z.cps.toList 0).map fun c => R.p (.str ⟨#[c]⟩) else none) = _
        rw [if_pos hz, e]
        simp [L2.atI, L2.ixN, sg]
      have hg : inS (.p (.str (sg c))) (.p c_GREAT) = some (isIn gGREAT c) := rfl
      have hc : sliceS (.p (.str z)) (some 1) none = some (.p (.str ⟨r.toArray⟩)) := by
        show (if z.length ≤ sizeB then some (R.p (.str (L2.cutS z (some 1) none))) else none) = _
        rw [if_pos hz, cut_tail e]
      have hr : (⟨r.toArray⟩ : Str).length ≤ sizeB := by
        have : z.length = r.length + 1 := by rw [len_list, e, List.length_cons]
        show r.toArray.size ≤ _
        rw [List.size_toArray]
        omega
      have hsm := small_ok ⟨r.toArray⟩ hr m
      have hB : isFreeB z = (isIn gGREAT c && r.all (isIn gSMALL)) := by
        unfold isFreeB
        rw [e]
        simp [h2]
      simp [b_is_free, runX, ex, ev, evs, part, Out.bind, Out.so, Out.of, isiS, isTr, R.data, R.f, F.data, cmpS, R.pd, c_MOST_SIGNS, ty1, ty2, ty3, ty4, ty5, ty6, ty7, ty8, hlen, i1, i2, hs, hg, hc, hsm, hB]
      cases isIn gGREAT c <;> simp
    · have i1 : (1 : Int) ≤ (z.length : Int) := by omega
      have i2 : ¬ (z.length : Int) ≤ 8 := by omega
      rw [hb, if_neg (fun q => h2 q.2)]
      simp [b_is_free, runX, ex, ev, evs, Out.bind, Out.so, Out.of, isiS, isTr, R.data, R.f, F.data, cmpS, R.pd, c_MOST_SIGNS, ty1, ty2, ty3, ty4, ty5, ty6, ty7, ty8, hlen, i1, i2]
  · have i1 : ¬ (1 : Int) ≤ (z.length : Int) := by omega
    rw [hb, if_neg (fun q => h1 q.1)]
    simp [b_is_free, runX, ex, ev, evs, Out.bind, Out.so, Out.of, isiS, isTr, R.data, R.f, F.data, cmpS, R.pd, c_MOST_SIGNS, ty1, ty2, ty3, ty4, ty5, ty6, ty7, ty8, hlen, i1]
end Lk09

namespace Lk09
open PySem VS
def numB : VS.D → Bool
  | .int i => decide (-999999999 ≤ i) && decide (i ≤ 999999999)
  | _ => false
/-- an int, or a text that isn't too long -/
def scal : VS.D → Prop
  | .int _ => True
  | .str z => z.length ≤ sizeB
  | _ => False
theorem num_d {d : VS.D} (h : scal d) (m : Mem) : f_is_number [.p d] m = .ok (.p (.bl (numB d))) m := by
  cases d <;> simp only [scal] at h
  · exact num_int _ m
  · exact num_str _ m
abbrev KV := List (VS.D × VS.D)
def valB (kvs : KV) (t : VS.D) : VS.D := match t with
  | .str z => if isFreeB z then (look kvs t).getD .non else t
  | _ => t
theorem val_of {t : VS.D} {kvs : KV} (h : scal t) (hk : kindOk kvs t = true) (m : Mem) : f_value_of [.p t, .p (.dct kvs)] m = .ok (.p (valB kvs t)) m := by
  cases t <;> simp only [scal] at h
  · rename_i i
    have h1 := free_int i m
    simp [f_value_of, VS.run, b_value_of, ex, ev, evs, Out.bind, Out.so, Out.of, isTr, R.f, F.data, h1, valB]
  · rename_i z
    have h1 := free_str z h m
    have h2 : mtS .get1 [.p (.dct kvs), .p (.str z)] = some (.p ((look kvs (.str z)).getD .non)) := by
      show (if kindOk kvs (.str z) = true then some (R.p ((look kvs (.str z)).getD .non)) else none) = _
      rw [if_pos hk]
    have h3 : mtT .get1 (.p (.dct kvs)) = true := rfl
    cases hf : isFreeB z <;> simp [f_value_of, VS.run, b_value_of, ex, ev, evs, Out.bind, Out.so, Out.of, isTr, R.f, F.data, h1, valB, hf, h2, h3]
def cpk (kvs : KV) : List (VS.D × F) := kvs.map fun kv => (kv.1, .d kv.2)
abbrev cp (kvs : KV) : R := .v (.dct (cpk kvs))
theorem dict_p {kvs : KV} (h : kvs.all (fun p => p.1.flat) = true) : biS .dict [.p (.dct kvs)] = some (cp kvs) := by
  show (if (kvs.all fun p => p.1.flat) = true then some (cp kvs) else none) = _
  rw [if_pos h]
/-- what a fill is -/
structure Fill (kvs : KV) : Prop where
  keys : ∀ p ∈ kvs, ∃ z, p.1 = .str z
  vals : ∀ p ∈ kvs, scal p.2
  len : kvs.length < 100
theorem Fill.flat {kvs : KV} (h : Fill kvs) : kvs.all (fun p => p.1.flat) = true := by
  rw [List.all_eq_true]
  intro p hp
  obtain ⟨z, e⟩ := h.keys p hp
  rw [e]
  rfl
theorem Fill.kind {kvs : KV} (h : Fill kvs) {t : VS.D} (ht : scal t) : kindOk kvs t = true := by
  unfold kindOk
  cases t <;> simp only [scal] at ht
  all_goals
    cases kvs with
    | nil => rfl
    | cons p r =>
      obtain ⟨z, e⟩ := h.keys p List.mem_cons_self
      obtain ⟨k, v⟩ := p
      simp only at e
      subst e
      rfl
theorem Fill.kindC {kvs : KV} (h : Fill kvs) {t : VS.D} (ht : scal t) : kindOk (cpk kvs) t = true := by
  have := h.kind ht
  unfold kindOk at this ⊢
  cases kvs with
  | nil => exact this
  | cons p r => exact this
theorem look_scal {kvs : KV} (h : ∀ p ∈ kvs, scal p.2) {t v : VS.D} (e : look kvs t = some v) : scal v := by
  induction kvs with
  | nil => simp [look] at e
  | cons p r ih =>
    obtain ⟨k, x⟩ := p
    simp only [look] at e
    split at e
    · cases e; exact h _ List.mem_cons_self
    · exact ih (fun q hq => h q (List.mem_cons_of_mem _ hq)) e
/-- bound: what a term stands for -/
theorem eq_scal {a b : VS.D} (ha : scal a ∨ a = .non) (hb : scal b ∨ b = .non) : eqS (.p a) (.p b) = some (D.eqv a b) := by
  have pl : ∀ d : VS.D, scal d ∨ d = .non → d.plain 40 = true := by
    intro d h
    cases d <;> simp [scal] at h <;> rfl
  unfold eqS
  have e1 : (R.p a).data = a := rfl
  have e2 : (R.p b).data = b := rfl
  rw [e1, e2, pl a ha, pl b hb]
  rfl
def sumB (kvs : KV) (t3 : VS.D) (i j : Int) : R :=
  if numB (.int (i + j)) then (if valB kvs t3 = .non then .v (.dct (VS.put (cpk kvs) t3 (.d (.int (i + j))))) else if D.eqv (valB kvs t3) (.int (i + j)) then cp kvs else .p .non) else .p .non
theorem val_scal {kvs : KV} (h : Fill kvs) {t : VS.D} (ht : scal t) : scal (valB kvs t) ∨ valB kvs t = .non := by
  cases t <;> simp only [scal] at ht
  · exact .inl trivial
  · rename_i z
    unfold valB
    dsimp only
    split
    · cases e : look kvs (.str z) with
      | none => exact .inr rfl
      | some v => exact .inl (look_scal h.vals e)
    · exact .inl ht
theorem sum_ok {kvs : KV} {k t1 t2 t3 : VS.D} {i j : Int} (h : Fill kvs) (h3 : scal t3) (m : Mem) : f_summed_of [.p (.tup [k, t1, t2, t3]), .p (.dct kvs), .p (.int i), .p (.int j)] m = .ok (sumB kvs t3 i j) m := by
  have n1 := num_d (d := .int (i + j)) trivial m
  have v3 := val_of h3 (h.kind h3) m
  have d1 := dict_p h.flat
  have s3 : subS (.p (.tup [k, t1, t2, t3])) (.p (.int 3)) = some (.p t3) := rfl
  have bn : binS .Add (.p (.int i)) (.p (.int j)) = some (.p (.int (i + j))) := rfl
  have hk := h.kindC h3
  have hl : (cpk kvs).length < sizeB := by
    have := h.len
    unfold cpk
    rw [List.length_map]
    unfold sizeB
    omega
  have vs := val_scal h h3
  have q2 := eq_scal (a := valB kvs t3) (b := .int (i + j)) vs (.inl trivial)
  unfold sumB
  cases hn : numB (.int (i + j)) with
  | false => simp [f_summed_of, VS.run, b_summed_of, ex, ev, evs, Out.bind, Out.so, Out.of, setSO, setE, isTr, R.f, F.data, bn, n1, hn]
  | true =>
    by_cases hv : valB kvs t3 = .non
    · simp [f_summed_of, VS.run, b_summed_of, ex, ev, evs, Out.bind, Out.so, Out.of, setSO, setE, isTr, R.f, R.data, R.pd, F.data, bn, n1, hn, s3, v3, cmpS, hv, d1, hk, hl]
    · cases he : D.eqv (valB kvs t3) (.int (i + j)) <;> simp [f_summed_of, VS.run, b_summed_of, ex, ev, evs, Out.bind, Out.so, Out.of, setSO, setE, isTr, R.f, R.data, R.pd, F.data, bn, n1, hn, s3, v3, cmpS, hv, d1, hk, hl, q2, he]
end Lk09

namespace Lk09
open PySem VS
theorem f2 {ds : List VS.D} {k a : VS.D} : subS (.p (.tup (k :: a :: ds))) (.p (.int 1)) = some (.p a) := by
  simp [subS, R.f, R.data, F.data, F.isLT, L2.atI, L2.ixN]
  rw [if_pos (by omega)]
  rfl
theorem f3 {ds : List VS.D} {k a b : VS.D} : subS (.p (.tup (k :: a :: b :: ds))) (.p (.int 2)) = some (.p b) := by
  simp [subS, R.f, R.data, F.data, F.isLT, L2.atI, L2.ixN]
  rw [if_pos (by omega)]
  rfl
theorem f1' {ds : List VS.D} {k : VS.D} : subS (.p (.tup (k :: ds))) (.p (.int 0)) = some (.p k) := by
  simp [subS, R.f, R.data, F.data, F.isLT, L2.atI, L2.ixN]
theorem tested_same {kvs : KV} {t1 t2 : VS.D} {rest : List VS.D} (h : Fill kvs) (h1 : scal t1) (h2 : scal t2) (s1 : scal (valB kvs t1)) (s2 : scal (valB kvs t2)) (m : Mem) :
    f_tested [.p (.tup (.str "same" :: t1 :: t2 :: rest)), .p (.dct kvs)] m = .ok (if D.eqv (valB kvs t1) (valB kvs t2) then cp kvs else .p .non) m := by
  have v1 := val_of h1 (h.kind h1) m
  have v2 := val_of h2 (h.kind h2) m
  have q1 : eqS (.p (.str "same")) (.p (.str "same")) = some true := by decide
  have q2 := eq_scal (a := valB kvs t1) (b := valB kvs t2) (.inl s1) (.inl s2)
  have d1 := dict_p h.flat
  cases he : D.eqv (valB kvs t1) (valB kvs t2) <;> simp [f_tested, VS.run, b_tested, ex, ev, evs, Out.bind, Out.so, Out.of, setSO, setE, isTr, R.f, F.data, f1', f2, f3, v1, v2, cmpS, q1, q2, he, d1]
theorem tested_less {kvs : KV} {t1 t2 : VS.D} {rest : List VS.D} (h : Fill kvs) (h1 : scal t1) (h2 : scal t2) (s1 : scal (valB kvs t1)) (s2 : scal (valB kvs t2)) (m : Mem) :
    f_tested [.p (.tup (.str "less" :: t1 :: t2 :: rest)), .p (.dct kvs)] m = .ok (if numB (valB kvs t1) && numB (valB kvs t2) then (match valB kvs t1, valB kvs t2 with | .int i, .int j => if i < j then cp kvs else .p .non | _, _ => .p .non) else .p .non) m := by
  have v1 := val_of h1 (h.kind h1) m
  have v2 := val_of h2 (h.kind h2) m
  have q1 : eqS (.p (.str "less")) (.p (.str "same")) = some false := by decide
  have q2 : eqS (.p (.str "less")) (.p (.str "plus")) = some false := by decide
  have d1 := dict_p h.flat
  have n1 := num_d s1 m
  have n2 := num_d s2 m
  cases e1 : numB (valB kvs t1) with
  | false => simp [f_tested, VS.run, b_tested, ex, ev, evs, Out.bind, Out.so, Out.of, setSO, setE, isTr, R.f, F.data, f1', f2, f3, v1, v2, cmpS, q1, q2, d1, n1, n2, e1]
  | true =>
    cases e2 : numB (valB kvs t2) with
    | false => simp [f_tested, VS.run, b_tested, ex, ev, evs, Out.bind, Out.so, Out.of, setSO, setE, isTr, R.f, F.data, f1', f2, f3, v1, v2, cmpS, q1, q2, d1, n1, n2, e1, e2]
    | true =>
      obtain ⟨i, ei⟩ : ∃ i, valB kvs t1 = .int i := by
        cases e : valB kvs t1 <;> rw [e] at e1 <;> simp [numB] at e1
        exact ⟨_, rfl⟩
      obtain ⟨j, ej⟩ : ∃ j, valB kvs t2 = .int j := by
        cases e : valB kvs t2 <;> rw [e] at e2 <;> simp [numB] at e2
        exact ⟨_, rfl⟩
      rw [ei] at e1 n1 v1
      rw [ej] at e2 n2 v2
      by_cases hij : i < j
      · have hji : ¬ j ≤ i := by omega
        simp [f_tested, VS.run, b_tested, ex, ev, evs, Out.bind, Out.so, Out.of, setSO, setE, isTr, R.f, R.data, F.data, f1', f2, f3, v1, v2, cmpS, q1, q2, d1, n1, n2, e1, e2, ei, ej, hij, hji]
      · have hji : j ≤ i := by omega
        simp [f_tested, VS.run, b_tested, ex, ev, evs, Out.bind, Out.so, Out.of, setSO, setE, isTr, R.f, R.data, F.data, f1', f2, f3, v1, v2, cmpS, q1, q2, d1, n1, n2, e1, e2, ei, ej, hij, hji]
theorem tested_plus {kvs : KV} {t1 t2 t3 : VS.D} (h : Fill kvs) (h1 : scal t1) (h2 : scal t2) (h3 : scal t3) (s1 : scal (valB kvs t1)) (s2 : scal (valB kvs t2)) (m : Mem) :
    f_tested [.p (.tup [.str "plus", t1, t2, t3]), .p (.dct kvs)] m = .ok (if numB (valB kvs t1) && numB (valB kvs t2) then (match valB kvs t1, valB kvs t2 with | .int i, .int j => sumB kvs t3 i j | _, _ => .p .non) else .p .non) m := by
  have v1 := val_of h1 (h.kind h1) m
  have v2 := val_of h2 (h.kind h2) m
  have q1 : eqS (.p (.str "plus")) (.p (.str "same")) = some false := by decide
  have q2 : eqS (.p (.str "plus")) (.p (.str "plus")) = some true := by decide
  have n1 := num_d s1 m
  have n2 := num_d s2 m
  cases e1 : numB (valB kvs t1) with
  | false => simp [f_tested, VS.run, b_tested, ex, ev, evs, Out.bind, Out.so, Out.of, setSO, setE, isTr, R.f, F.data, f1', f2, f3, v1, v2, cmpS, q1, q2, n1, n2, e1]
  | true =>
    cases e2 : numB (valB kvs t2) with
    | false => simp [f_tested, VS.run, b_tested, ex, ev, evs, Out.bind, Out.so, Out.of, setSO, setE, isTr, R.f, F.data, f1', f2, f3, v1, v2, cmpS, q1, q2, n1, n2, e1, e2]
    | true =>
      obtain ⟨i, ei⟩ : ∃ i, valB kvs t1 = .int i := by
        cases e : valB kvs t1 <;> rw [e] at e1 <;> simp [numB] at e1
        exact ⟨_, rfl⟩
      obtain ⟨j, ej⟩ : ∃ j, valB kvs t2 = .int j := by
        cases e : valB kvs t2 <;> rw [e] at e2 <;> simp [numB] at e2
        exact ⟨_, rfl⟩
      rw [ei] at e1 n1 v1
      rw [ej] at e2 n2 v2
      have sm := sum_ok (k := .str "plus") (t1 := t1) (t2 := t2) (i := i) (j := j) h h3 m
      have sv : ∃ f, sumB kvs t3 i j = .v f := by
        unfold sumB
        repeat' split
        all_goals exact ⟨_, rfl⟩
      obtain ⟨sf, sv⟩ := sv
      rw [sv] at sm
      simp [f_tested, VS.run, b_tested, ex, ev, evs, Out.bind, Out.so, Out.of, setSO, setE, isTr, R.f, R.data, F.data, f1', f2, f3, v1, v2, cmpS, q1, q2, n1, n2, e1, e2, ei, ej, sm, sv]
end Lk09

namespace Lk09
open PySem VS
theorem lnum_d {d : VS.D} (h : scal d) (m : Mem) : f__law_number [.p d] m = .ok (.p (.bl (numB d))) m := by
  cases d <;> simp only [scal] at h
  · rename_i i
    simp [f__law_number, VS.run, b__law_number, ex, ev, evs, Out.bind, Out.so, Out.of, isiS, isTr, R.data, R.f, F.data, cmpS, R.pd, negS, ty1, ty2, ty3, ty4, ty5, ty6, ty7, ty8, numB]
    by_cases h : -999999999 ≤ i <;> simp [h]
  · simp [f__law_number, VS.run, b__law_number, ex, ev, evs, Out.bind, Out.so, Out.of, isiS, isTr, R.data, R.f, F.data, cmpS, R.pd, negS, ty1, ty2, ty3, ty4, ty5, ty6, ty7, ty8, numB]
def getB (kvs : KV) (t : VS.D) : VS.D := (look kvs t).getD t
theorem purek_cpk : ∀ kvs : KV, F.purek (cpk kvs) = some kvs
  | [] => rfl
  | (k, v) :: r => by
    show (F.purek (cpk r)).map ((k, v) :: ·) = _
    rw [purek_cpk r]
    rfl
abbrev wp (kvs : KV) : R := .w (.dct (cpk kvs))
theorem get2_w {kvs : KV} {t : VS.D} (hk : kindOk kvs t = true) : mtS .get2 [wp kvs, .p t, .p t] = some (.p (getB kvs t)) := by
  show ((F.purek (cpk kvs)).bind fun kvs => if kindOk kvs t = true then some (R.p ((look kvs t).getD t)) else none) = _
  rw [purek_cpk]
  show (if kindOk kvs t = true then _ else none) = _
  rw [if_pos hk]
  rfl
theorem get2_t {kvs : KV} : mtT .get2 (wp kvs) = true := by
  show (F.purek (cpk kvs)).isSome = true
  rw [purek_cpk]
  rfl
theorem dict_w {kvs : KV} (h : kvs.all (fun p => p.1.flat) = true) : biS .dict [wp kvs] = some (cp kvs) := by
  show ((F.purek (cpk kvs)).bind fun kvs => if (kvs.all fun p => p.1.flat) = true then some (cp kvs) else none) = _
  rw [purek_cpk]
  show (if (kvs.all fun p => p.1.flat) = true then some (cp kvs) else none) = _
  rw [if_pos h]
theorem sl2 {k a b : VS.D} : sliceS (.p (.tup [k, a, b])) (some 1) none = some (.p (.tup [a, b])) := by rfl
theorem sl3 {k a b c : VS.D} : sliceS (.p (.tup [k, a, b, c])) (some 1) none = some (.p (.tup [a, b, c])) := by rfl
theorem gl0 {a : VS.D} {ds : List VS.D} : subS (.p (.lst (a :: ds))) (.p (.int 0)) = some (.p a) := by
  simp [subS, R.f, R.data, F.data, F.isLT, F.isL, L2.atI, L2.ixN]
theorem gl1 {a b : VS.D} {ds : List VS.D} : subS (.p (.lst (a :: b :: ds))) (.p (.int 1)) = some (.p b) := by
  simp [subS, R.f, R.data, F.data, F.isLT, F.isL, L2.atI, L2.ixN]
  rw [if_pos (by omega)]
  rfl
theorem gl2 {a b c : VS.D} : subS (.p (.lst [a, b, c])) (.p (.int 2)) = some (.p c) := by rfl
theorem get_scal {kvs : KV} (h : Fill kvs) {t : VS.D} (ht : scal t) : scal (getB kvs t) := by
  unfold getB
  cases e : look kvs t with
  | none => exact ht
  | some v => exact look_scal h.vals e
theorem vals2 {kvs : KV} {k a b : VS.D} {fr : R} (h : Fill kvs) (h1 : scal a) (h2 : scal b) (m : Mem) :
    ev (.frz (.comp (.mth .get2 (.var 1) (.cons (.var 4) (.cons (.var 4) .no))) (.nm 4) .plain (.cons (.slice (.var 0) (.cst (.int 1)) .no) .no) .no [("_law_term_here", 4)])) [some (.p (.tup [k, a, b])), some (wp kvs), some fr, none, none, none, none] m = .ok (.p (.lst [getB kvs a, getB kvs b])) m := by
  have g1 := get2_w (kvs := kvs) (h.kind h1)
  have g2 := get2_w (kvs := kvs) (h.kind h2)
  have g3 := get2_t (kvs := kvs)
  have s2 : sliceS (.v (.d (.tup [k, a, b]))) (some 1) none = some (.p (.tup [a, b])) := sl2
  have n3 : 2 ≤ sizeB := by decide
  simp [ev, evs, part, srcO, srcS, sem1, plainS, compL, wipeR, setTg, setE, tst, Out.calm, Out.bind, Out.of, R.f, R.data, F.data, F.datas, F.isLT, s2, g1, g2, g3, n3, R.allv]
theorem vals3 {kvs : KV} {k a b c : VS.D} {fr : R} (h : Fill kvs) (h1 : scal a) (h2 : scal b) (h3 : scal c) (m : Mem) :
    ev (.frz (.comp (.mth .get2 (.var 1) (.cons (.var 4) (.cons (.var 4) .no))) (.nm 4) .plain (.cons (.slice (.var 0) (.cst (.int 1)) .no) .no) .no [("_law_term_here", 4)])) [some (.p (.tup [k, a, b, c])), some (wp kvs), some fr, none, none, none, none] m = .ok (.p (.lst [getB kvs a, getB kvs b, getB kvs c])) m := by
  have g1 := get2_w (kvs := kvs) (h.kind h1)
  have g2 := get2_w (kvs := kvs) (h.kind h2)
  have g4 := get2_w (kvs := kvs) (h.kind h3)
  have g3 := get2_t (kvs := kvs)
  have s2 : sliceS (.v (.d (.tup [k, a, b, c]))) (some 1) none = some (.p (.tup [a, b, c])) := sl3
  have n3 : 3 ≤ sizeB := by decide
  simp [ev, evs, part, srcO, srcS, sem1, plainS, compL, wipeR, setTg, setE, tst, Out.calm, Out.bind, Out.of, R.f, R.data, F.data, F.datas, F.isLT, s2, g1, g2, g3, g4, n3, R.allv]
end Lk09

namespace Lk09
open PySem VS
theorem due_same {kvs : KV} {a b : VS.D} {fr : F} (h : Fill kvs) (h1 : scal a) (h2 : scal b) (hfr : ∃ w, fr = .d w) (m : Mem) :
    f__law_due [.p (.tup [.str "same", a, b]), wp kvs, .v fr] m = .ok (if D.eqv (getB kvs a) (getB kvs b) then cp kvs else .p .non) m := by
  obtain ⟨w, rfl⟩ := hfr
  have v := vals2 (k := .str "same") (fr := .p w) h h1 h2 m
  have q1 : eqS (.p (.str "same")) (.p (.str "same")) = some true := by decide
  have q2 := eq_scal (.inl (get_scal h h1)) (.inl (get_scal h h2))
  have d1 := dict_w h.flat
  cases he : D.eqv (getB kvs a) (getB kvs b) <;> simp [f__law_due, VS.run, b__law_due, ex, v, setSO, setE, Out.so, F.data] <;>
    simp [ev, evs, Out.bind, Out.so, Out.of, isTr, R.f, F.data, f1', gl0, gl1, cmpS, q1, q2, he, d1]
theorem due_less {kvs : KV} {a b : VS.D} {fr : F} (h : Fill kvs) (h1 : scal a) (h2 : scal b) (hfr : ∃ w, fr = .d w) (m : Mem) :
    f__law_due [.p (.tup [.str "less", a, b]), wp kvs, .v fr] m = .ok (if numB (getB kvs a) && numB (getB kvs b) then (match getB kvs a, getB kvs b with | .int i, .int j => if i < j then cp kvs else .p .non | _, _ => .p .non) else .p .non) m := by
  obtain ⟨w, rfl⟩ := hfr
  have v := vals2 (k := .str "less") (fr := .p w) h h1 h2 m
  have q1 : eqS (.p (.str "less")) (.p (.str "same")) = some false := by decide
  have q2 : eqS (.p (.str "less")) (.p (.str "less")) = some true := by decide
  have n1 := lnum_d (get_scal h h1) m
  have n2 := lnum_d (get_scal h h2) m
  have d1 := dict_w h.flat
  cases e1 : numB (getB kvs a) with
  | false =>
    simp [f__law_due, VS.run, b__law_due, ex, v, setSO, setE, Out.so, F.data]
    simp [ev, evs, Out.bind, Out.so, Out.of, isTr, R.f, F.data, f1', gl0, gl1, cmpS, q1, q2, d1, n1, n2, e1]
  | true =>
    cases e2 : numB (getB kvs b) with
    | false =>
      simp [f__law_due, VS.run, b__law_due, ex, v, setSO, setE, Out.so, F.data]
      simp [ev, evs, Out.bind, Out.so, Out.of, isTr, R.f, F.data, f1', gl0, gl1, cmpS, q1, q2, d1, n1, n2, e1, e2]
    | true =>
      obtain ⟨i, ei⟩ : ∃ i, getB kvs a = .int i := by
        cases e : getB kvs a <;> rw [e] at e1 <;> simp [numB] at e1
        exact ⟨_, rfl⟩
      obtain ⟨j, ej⟩ : ∃ j, getB kvs b = .int j := by
        cases e : getB kvs b <;> rw [e] at e2 <;> simp [numB] at e2
        exact ⟨_, rfl⟩
      rw [ei, ej] at v
      rw [ei] at e1 n1
      rw [ej] at e2 n2
      by_cases hij : i < j <;> simp [f__law_due, VS.run, b__law_due, ex, v, setSO, setE, Out.so, F.data] <;>
        simp [ev, evs, Out.bind, Out.so, Out.of, isTr, R.f, R.data, F.data, f1', gl0, gl1, cmpS, q1, q2, d1, n1, n2, e1, e2, ei, ej, hij]
def dueB (kvs : KV) (c w : VS.D) (i j : Int) : R :=
  if numB (.int (i + j)) then (if D.eqv c w then .v (.dct (VS.put (cpk kvs) w (.d (.int (i + j))))) else if D.eqv (getB kvs c) (.int (i + j)) then cp kvs else .p .non) else .p .non
theorem due_plus {kvs : KV} {a b c w : VS.D} (h : Fill kvs) (h1 : scal a) (h2 : scal b) (h3 : scal c) (hw : scal w) (m : Mem) :
    f__law_due [.p (.tup [.str "plus", a, b, c]), wp kvs, .p w] m = .ok (if numB (getB kvs a) && numB (getB kvs b) then (match getB kvs a, getB kvs b with | .int i, .int j => dueB kvs c w i j | _, _ => .p .non) else .p .non) m := by
  have v := vals3 (k := .str "plus") (fr := .p w) h h1 h2 h3 m
  have q1 : eqS (.p (.str "plus")) (.p (.str "same")) = some false := by decide
  have q2 : eqS (.p (.str "plus")) (.p (.str "less")) = some false := by decide
  have n1 := lnum_d (get_scal h h1) m
  have n2 := lnum_d (get_scal h h2) m
  have d1 := dict_w h.flat
  have s3 : subS (.p (.tup [.str "plus", a, b, c])) (.p (.int 3)) = some (.p c) := rfl
  have q3 := eq_scal (.inl h3) (.inl hw)
  have hk := h.kindC hw
  have hl : (cpk kvs).length < sizeB := by
    have := h.len
    unfold cpk
    rw [List.length_map]
    unfold sizeB
    omega
  cases e1 : numB (getB kvs a) with
  | false =>
    simp [f__law_due, VS.run, b__law_due, ex, v, setSO, setE, Out.so, F.data]
    simp [ev, evs, Out.bind, Out.so, Out.of, isTr, R.f, F.data, f1', gl0, gl1, cmpS, q1, q2, d1, n1, n2, e1]
  | true =>
    cases e2 : numB (getB kvs b) with
    | false =>
      simp [f__law_due, VS.run, b__law_due, ex, v, setSO, setE, Out.so, F.data]
      simp [ev, evs, Out.bind, Out.so, Out.of, isTr, R.f, F.data, f1', gl0, gl1, cmpS, q1, q2, d1, n1, n2, e1, e2]
    | true =>
      obtain ⟨i, ei⟩ : ∃ i, getB kvs a = .int i := by
        cases e : getB kvs a <;> rw [e] at e1 <;> simp [numB] at e1
        exact ⟨_, rfl⟩
      obtain ⟨j, ej⟩ : ∃ j, getB kvs b = .int j := by
        cases e : getB kvs b <;> rw [e] at e2 <;> simp [numB] at e2
        exact ⟨_, rfl⟩
      rw [ei, ej] at v
      rw [ei] at e1 n1
      rw [ej] at e2 n2
      have bn : binS .Add (.p (.int i)) (.p (.int j)) = some (.p (.int (i + j))) := rfl
      have n3 := lnum_d (d := .int (i + j)) trivial m
      have q4 := eq_scal (b := .int (i + j)) (.inl (get_scal h h3)) (.inl trivial)
      rw [ei, ej]
      show f__law_due [.p (.tup [.str "plus", a, b, c]), wp kvs, .p w] m = Out.ok (dueB kvs c w i j) m
      unfold dueB
      cases hn : numB (.int (i + j)) with
      | false =>
        simp [f__law_due, VS.run, b__law_due, ex, v, setSO, setE, Out.so, F.data]
        simp [ev, evs, Out.bind, Out.so, Out.of, isTr, R.f, R.data, F.data, f1', gl0, gl1, cmpS, q1, q2, d1, n1, n2, e1, e2, bn, n3, hn]
      | true =>
        cases hc : D.eqv c w with
        | true =>
          simp [f__law_due, VS.run, b__law_due, ex, v, setSO, setE, Out.so, F.data]
          simp [ev, evs, Out.bind, Out.so, Out.of, isTr, R.f, R.data, R.pd, F.data, f1', gl0, gl1, cmpS, q1, q2, d1, n1, n2, e1, e2, bn, n3, hn, s3, q3, hc, hk, hl]
        | false =>
          cases hd : D.eqv (getB kvs c) (.int (i + j)) <;> simp [f__law_due, VS.run, b__law_due, ex, v, setSO, setE, Out.so, F.data] <;>
            simp [ev, evs, Out.bind, Out.so, Out.of, isTr, R.f, R.data, R.pd, F.data, f1', gl0, gl1, gl2, cmpS, q1, q2, d1, n1, n2, e1, e2, bn, n3, hn, s3, q3, hc, q4, hd]
end Lk09

namespace Lk09
open PySem VS
theorem mod_p {i j : Int} (h : 0 < j) : binS .Mod (.p (.int i)) (.p (.int j)) = some (.p (.int (i % j))) := by
  show (if 0 < j then some (R.p (.int (i % j))) else none) = _
  rw [if_pos h]
theorem div_p {i j : Int} (h : 0 < j) (h2 : j < 2 ^ 200) : binS .FloorDiv (.p (.int i)) (.p (.int j)) = some (.p (.int (i / j))) := by
  show (if 0 < j ∧ j < 2 ^ 200 then some (R.p (.int (i / j))) else none) = _
  rw [if_pos ⟨h, h2⟩]
theorem sub_p {i j : Int} : binS .Sub (.p (.int i)) (.p (.int j)) = some (.p (.int (i - j))) := by
  show (if True then some (R.p (.int (i - j))) else none) = _
  rw [if_pos trivial]
theorem add_p {i j : Int} : binS .Add (.p (.int i)) (.p (.int j)) = some (.p (.int (i + j))) := rfl
theorem at_nat {α : Type} {ds : List α} {k : Int} (h0 : 0 ≤ k) (h : k < ds.length) : ∃ d, L2.atI ds k = some d ∧ d ∈ ds := by
  have hk : k.toNat < ds.length := by omega
  refine ⟨ds[k.toNat], ?_, List.getElem_mem hk⟩
  unfold L2.atI L2.ixN
  rw [if_pos h0, if_pos h]
  simp [hk]
theorem sub_list {ds : List VS.D} {k : Int} (h0 : 0 ≤ k) (h : k < ds.length) : ∃ d ∈ ds, subS (.p (.lst ds)) (.p (.int k)) = some (.p d) := by
  obtain ⟨d, e, m⟩ := at_nat h0 h
  refine ⟨d, m, ?_⟩
  show (L2.atI ds k).map R.p = _
  rw [e]
  rfl
/-- a value: an int within the bounds, or a name -/
def Val (ns : List Str) (d : VS.D) : Prop := (∃ i : Int, d = .int i ∧ numB (.int i) = true) ∨ ∃ z, d = .str z ∧ z ∈ ns
theorem eq_int {i j : Int} : eqS (.p (.int i)) (.p (.int j)) = some (i == j) := by
  rw [eq_scal (a := .int i) (b := .int j) (.inl trivial) (.inl trivial)]
  rfl
theorem value_ok {a b c : Str} {n : Int} (m : Mem) : ∃ d, f__law_value [.p (.lst [.str a, .str b, .str c]), .p (.int n)] m = .ok (.p d) m ∧ Val [a, b, c] d := by
  have m3 := mod_p (i := n) (j := 3) (by decide)
  have d3 := div_p (i := n) (j := 3) (by decide) (by decide)
  have e3 := eq_int (i := n % 3) (j := 0)
  cases h : (n % 3 == 0) with
  | true =>
    have mm := mod_p (i := n / 3) (j := 1999999999) (by decide)
    have ms := sub_p (i := n / 3 % 1999999999) (j := 999999999)
    refine ⟨.int (n / 3 % 1999999999 - 999999999), ?_, .inl ⟨_, rfl, ?_⟩⟩
    · simp [f__law_value, VS.run, b__law_value, ex, F.data]
      simp [ev, evs, Out.bind, Out.so, Out.of, isTr, R.f, m3, cmpS, e3, h, d3, mm, ms]
    · have h1 := Int.emod_nonneg (n / 3) (show (1999999999 : Int) ≠ 0 by decide)
      have h2 := Int.emod_lt_of_pos (n / 3) (show (0 : Int) < 1999999999 by decide)
      simp only [numB, Bool.and_eq_true, decide_eq_true_eq]
      omega
  | false =>
    have mm := mod_p (i := n / 3) (j := 12) (by decide)
    have h1 := Int.emod_nonneg (n / 3) (show (12 : Int) ≠ 0 by decide)
    have h2 := Int.emod_lt_of_pos (n / 3) (show (0 : Int) < 12 by decide)
    obtain ⟨d, hd, es⟩ := sub_list (ds := [.int 0, .int 1, .int 2, .int 3, .int (-1), .str a, .str b, .str c, .int 999999999, .int (-999999999), .int 500000000, .int 1]) h1 (by simpa using h2)
    have g2 : subS (.p (.lst [.str a, .str b, .str c])) (.p (.int 2)) = some (.p (.str c)) := rfl
    refine ⟨d, ?_, ?_⟩
    · simp [f__law_value, VS.run, b__law_value, ex, F.data]
      simp [ev, evs, Out.bind, Out.so, Out.of, isTr, R.f, m3, cmpS, e3, h, d3, mm, gl0, gl1, g2, negS, R.vals, setSO, setE, F.data, F.datas, es]
    · simp only [List.mem_cons, List.not_mem_nil, or_false] at hd
      rcases hd with rfl | rfl | rfl | rfl | rfl | rfl | rfl | rfl | rfl | rfl | rfl | rfl
      all_goals first | exact .inl ⟨_, rfl, by decide⟩ | exact .inr ⟨_, rfl, by simp⟩
theorem term_ok {a b c f0 f1 f2 f3 : Str} {n : Int} (m : Mem) : ∃ d, f__law_term [.p (.lst [.str a, .str b, .str c]), .p (.lst [.str f0, .str f1, .str f2, .str f3]), .p (.int n)] m = .ok (.p d) m ∧ (Val [a, b, c] d ∨ ∃ z ∈ [f0, f1, f2], d = .str z) := by
  have m2 := mod_p (i := n) (j := 2) (by decide)
  have d2 := div_p (i := n) (j := 2) (by decide) (by decide)
  have e2 := eq_int (i := n % 2) (j := 0)
  cases h : (n % 2 == 0) with
  | true =>
    have m3 := mod_p (i := n / 2) (j := 3) (by decide)
    have h1 := Int.emod_nonneg (n / 2) (show (3 : Int) ≠ 0 by decide)
    have h2 := Int.emod_lt_of_pos (n / 2) (show (0 : Int) < 3 by decide)
    have key : ∃ z ∈ [f0, f1, f2], subS (.p (.lst [.str f0, .str f1, .str f2, .str f3])) (.p (.int (n / 2 % 3))) = some (.p (.str z)) := by
      have : n / 2 % 3 = 0 ∨ n / 2 % 3 = 1 ∨ n / 2 % 3 = 2 := by omega
      rcases this with e | e | e <;> rw [e]
      · exact ⟨f0, by simp, rfl⟩
      · exact ⟨f1, by simp, rfl⟩
      · exact ⟨f2, by simp, rfl⟩
    obtain ⟨z, hz, ez⟩ := key
    refine ⟨.str z, ?_, .inr ⟨z, hz, rfl⟩⟩
    simp [f__law_term, VS.run, b__law_term, ex, F.data]
    simp [ev, evs, Out.bind, Out.so, Out.of, isTr, R.f, m2, cmpS, e2, h, d2, m3, ez]
  | false =>
    obtain ⟨d, e, hv⟩ := value_ok (a := a) (b := b) (c := c) (n := n / 2) m
    refine ⟨d, ?_, .inl hv⟩
    simp [f__law_term, VS.run, b__law_term, ex, F.data]
    simp [ev, evs, Out.bind, Out.so, Out.of, isTr, R.f, m2, cmpS, e2, h, d2, e]
end Lk09

namespace Lk09
open PySem VS
abbrev LS : List Nat := gSMALL.cps.toList
def Low (z : Str) : Prop := ∀ c ∈ z.cps.toList, c ∈ LS
theorem small_of {c : Nat} (h : c ∈ LS) : isIn gSMALL c = true ∧ isIn gGREAT c = false := by
  have k : ∀ c ∈ LS, isIn gSMALL c = true ∧ isIn gGREAT c = false := by decide +kernel
  exact k c h
theorem low_free {z : Str} (h : Low z) : isFreeB z = false := by
  unfold isFreeB
  cases e : z.cps.toList with
  | nil => rfl
  | cons c r =>
    have := (small_of (h c (by rw [e]; exact List.mem_cons_self))).2
    simp [this]
theorem comp_map {test : VS.Env → Mem → Out Bool} {elt : VS.Env → Mem → Out R} {tg : Tg} {ρ : VS.Env} {m : Mem} {f : VS.D → VS.D} {ρ' : VS.D → VS.Env} : ∀ (ds : List VS.D), (∀ d ∈ ds, setTg tg d ρ = some (ρ' d) ∧ test (ρ' d) m = .ok true m ∧ elt (ρ' d) m = .ok (.p (f d)) m) →
    compL test elt tg ρ ds m = .ok (ds.map fun d => .d (f d)) m
  | [], _ => rfl
  | d :: ds, h => by
    obtain ⟨h1, h2, h3⟩ := h d List.mem_cons_self
    have ih := comp_map ds fun d hd => h d (List.mem_cons_of_mem _ hd)
    unfold compL
    simp [h1, h2, h3, Out.bind, ih]
theorem range_mem : ∀ {n : Nat} {i : Int} {d : VS.D}, d ∈ rangeD i n → ∃ k : Int, d = .int k ∧ i ≤ k ∧ k < i + n
  | 0, _, _, h => by simp [rangeD] at h
  | n + 1, i, d, h => by
    simp only [rangeD, List.mem_cons] at h
    rcases h with rfl | h
    · exact ⟨i, rfl, by omega, by omega⟩
    · obtain ⟨k, e, h1, h2⟩ := range_mem h
      exact ⟨k, e, by omega, by omega⟩
theorem range_len : ∀ (n : Nat) (i : Int), (rangeD i n).length = n
  | 0, _ => rfl
  | n + 1, i => by simp [rangeD, range_len n]
theorem rng1 {k : Int} (h0 : 0 ≤ k) (h : k < 1000) : srcS .range1 [.p (.int k)] = some (rangeD 0 k.toNat) := by
  show (if (inR 0 && inR k && decide ((k - 0).toNat ≤ sizeB)) = true then some (rangeD 0 (k - 0).toNat) else none) = _
  have h1 : inR 0 = true := by decide
  have h2 : inR k = true := by
    unfold inR
    rw [decide_eq_true_eq]
    constructor <;> omega
  have h3 : (k - 0).toNat ≤ sizeB := by unfold sizeB; omega
  rw [h1, h2, decide_eq_true h3, Int.sub_zero]
  rfl
theorem sub_str {z : Str} {k : Int} (hz : z.length ≤ sizeB) (h0 : 0 ≤ k) (h : k < z.cps.toList.length) : ∃ c ∈ z.cps.toList, subS (.p (.str z)) (.p (.int k)) = some (.p (.str (sg c))) := by
  obtain ⟨c, e, hc⟩ := at_nat h0 h
  refine ⟨c, hc, ?_⟩
  show (if z.length ≤ sizeB then (L2.atI z.cps.toList k).map fun c => R.p (.str ⟨#[c]⟩) else none) = _
  rw [if_pos hz, e]
  rfl
theorem cat_p {x y : Str} (h : x.length + y.length ≤ sizeB) : binS .Add (.p (.str x)) (.p (.str y)) = some (.p (.str (x ++ y))) := by
  show (if x.length + y.length ≤ sizeB then some (R.p (.str (x ++ y))) else none) = _
  rw [if_pos h]
theorem app_chars (x y : Str) : (x ++ y).cps.toList = x.cps.toList ++ y.cps.toList := by
  show (x.cps ++ y.cps).toList = _
  simp
theorem app_len (x y : Str) : (x ++ y).length = x.length + y.length := by
  rw [len_list, app_chars, List.length_append, len_list x, len_list y]
theorem low_app {x y : Str} (h1 : Low x) (h2 : Low y) : Low (x ++ y) := by
  intro c hc
  rw [app_chars, List.mem_append] at hc
  exact hc.elim (h1 c) (h2 c)
theorem low_sg {c : Nat} (h : c ∈ LS) : Low (sg c) := by
  intro d hd
  have : d = c := by simpa [sg] using hd
  rw [this]
  exact h
theorem sg_len (c : Nat) : (sg c).length = 1 := rfl
theorem low_cut {z : Str} {lo hi : Option Int} (h : Low z) : Low (L2.cutS z lo hi) := by
  intro c hc
  unfold L2.cutS at hc
  exact h c (List.mem_of_mem_drop (List.mem_of_mem_take (by simpa using hc)))
theorem slice_p {z : Str} {lo hi : Option Int} (hz : z.length ≤ sizeB) : sliceS (.p (.str z)) lo hi = some (.p (.str (L2.cutS z lo hi))) := by
  show (if z.length ≤ sizeB then some (R.p (.str (L2.cutS z lo hi))) else none) = _
  rw [if_pos hz]
theorem strs_map : ∀ ys : List Str, strsD (ys.map .str) = some ys
  | [] => rfl
  | y :: ys => by
    show (strsD (ys.map .str)).map (y :: ·) = _
    rw [strs_map ys]
    rfl
theorem foldl_mem {P : Nat → Prop} : ∀ (rest : List Str) (acc : Array Nat), (∀ c ∈ acc.toList, P c) → (∀ y ∈ rest, ∀ c ∈ y.cps.toList, P c) → ∀ c ∈ (rest.foldl (fun acc p => acc ++ (Str.ofString "").cps ++ p.cps) acc).toList, P c
  | [], acc, h, _ => h
  | y :: r, acc, h, k => by
    refine foldl_mem r _ (fun c hc => ?_) fun z hz => k z (List.mem_cons_of_mem _ hz)
    have e0 : (Str.ofString "").cps.toList = [] := by decide
    rw [Array.toList_append, Array.toList_append, e0, List.append_nil, List.mem_append] at hc
    exact hc.elim (h c) (k y List.mem_cons_self c)
theorem low_join {ys : List Str} (h : ∀ y ∈ ys, Low y) : Low (Txt.join "" ys) := by
  cases ys with
  | nil =>
    intro c hc
    have e : (Txt.join "" []).cps.toList = [] := by decide
    rw [e] at hc
    cases hc
  | cons y r => exact foldl_mem r y.cps (h y List.mem_cons_self) fun z hz => h z (List.mem_cons_of_mem _ hz)
theorem join_len (ys : List Str) : (Txt.join "" ys).length = (ys.map (·.length)).sum := by
  have := PySem.size_glued "" ys
  exact this
theorem join_p {ys : List Str} (h : (ys.map (·.length)).sum ≤ sizeB) : mtS .join [.p (.str ""), .v (.lst (ys.map fun y => .d (.str y)))] = some (.p (.str (Txt.join "" ys))) := by
  have e1 : (F.lst (ys.map fun y => .d (.str y))).isLT = some (ys.map .str) := by
    show F.pures (ys.map fun y => .d (.str y)) = _
    induction ys with
    | nil => rfl
    | cons y r ih =>
      simp only [List.map_cons, F.pures]
      rw [ih (by simp only [List.map_cons, List.sum_cons] at h; omega)]
      rfl
  show (((F.lst (ys.map fun y => .d (.str y))).isLT.bind strsD).bind fun (ys : List Str) => if (ys.map (·.length)).sum + ys.length * (Str.ofString "").length ≤ sizeB then some (R.p (.str (Txt.join "" ys))) else none) = _
  rw [e1]
  show ((strsD (ys.map .str)).bind _) = _
  rw [strs_map]
  show (if (ys.map (·.length)).sum + ys.length * (Str.ofString "").length ≤ sizeB then some (R.p (.str (Txt.join "" ys))) else none) = _
  have e0 : (Str.ofString "").length = 0 := by decide
  rw [e0, Nat.mul_zero, Nat.add_zero, if_pos h]
def gY : Str := "abcdefghijklmnopqrstuvwxy"
theorem gY_low : Low gY := by
  have k : ∀ c ∈ gY.cps.toList, c ∈ LS := by decide +kernel
  exact k
theorem gS_low : Low gSMALL := fun c h => h
/-- a word put together from signs: f tells the text's place -/
theorem word_ok {g : Str} (hg : Low g) (hgz : g.length ≤ 1000) {ei : E} {j : Nat} {ρ : VS.Env} {m : Mem} {eg : E} {n : Int} {nm : Str} (h0 : 0 ≤ n) (hn : n < 10) (es : E) (hes : evs es ρ m = .ok [.p (.int n)] m) (hj : j < ρ.length)
    (hgE : ∀ k : Int, ev eg ((ρ.set j none).set j (some (.p (.int k)))) m = .ok (.p (.str g)) m) (hi : ∀ k : Int, ∃ t : Int, ev ei ((ρ.set j none).set j (some (.p (.int k)))) m = .ok (.p (.int t)) m ∧ 0 ≤ t ∧ t < g.cps.toList.length) :
    ∃ z, ev (.mth .join (.cst (.str "")) (.cons (.comp (.sub eg ei) (.nm j) .range1 es .no [(nm, j)]) .no)) ρ m = .ok (.p (.str z)) m ∧ Low z ∧ z.length = n.toNat := by
  have pick : ∀ k : Int, ∃ c ∈ g.cps.toList, ev (.sub eg ei) ((ρ.set j none).set j (some (.p (.int k)))) m = .ok (.p (.str (sg c))) m := fun k => by
    obtain ⟨t, e, t0, t1⟩ := hi k
    obtain ⟨c, hc, es⟩ := sub_str (z := g) (by unfold sizeB; omega) t0 t1
    refine ⟨c, hc, ?_⟩
    show ((ev eg ((ρ.set j none).set j (some (.p (.int k)))) m).bind fun x m1 => (ev ei ((ρ.set j none).set j (some (.p (.int k)))) m1).bind fun y m2 => Out.of (subS x y) m2) = _
    rw [hgE]
    show ((ev ei ((ρ.set j none).set j (some (.p (.int k)))) m).bind fun y m2 => Out.of (subS (.p (.str g)) y) m2) = _
    rw [e]
    show Out.of (subS (.p (.str g)) (.p (.int t))) m = _
    rw [es]
    rfl
  let f : Int → Nat := fun k => Classical.choose (pick k)
  have hf : ∀ k, f k ∈ g.cps.toList ∧ ev (.sub eg ei) ((ρ.set j none).set j (some (.p (.int k)))) m = .ok (.p (.str (sg (f k)))) m := fun k => Classical.choose_spec (pick k)
  let h : VS.D → Str := fun d => match d with | .int k => sg (f k) | _ => sg (f 0)
  have hh : ∀ d, ∃ c ∈ g.cps.toList, h d = sg c := fun d => by
    cases d <;> exact ⟨_, (hf _).1, rfl⟩
  have hc : compL (fun ρ' m' => (tst .no (ev .no ρ' m')).calm) (fun ρ' m' => (ev (.sub eg ei) ρ' m').calm) (.nm j) (wipeR ρ [j]) (rangeD 0 n.toNat) m = .ok ((rangeD 0 n.toNat).map fun d => .d (.str (h d))) m := by
    refine comp_map (f := fun d => .str (h d)) (ρ' := fun d => (ρ.set j none).set j (some (.p d))) _ fun d hd => ?_
    obtain ⟨k, rfl, _, _⟩ := range_mem hd
    refine ⟨?_, rfl, ?_⟩
    · show (if j < (ρ.set j none).length then _ else none) = _
      rw [if_pos (by rw [List.length_set]; exact hj)]
      rfl
    · show (ev (.sub eg ei) ((ρ.set j none).set j (some (.p (.int k)))) m).calm = _
      rw [(hf k).2]
      rfl
  have hl : ((rangeD 0 n.toNat).map fun d => F.d (.str (h d))).length ≤ sizeB := by
    rw [List.length_map, range_len]
    unfold sizeB
    omega
  have e1 : ((rangeD 0 n.toNat).map fun d => F.d (.str (h d))) = (((rangeD 0 n.toNat).map h).map fun y => F.d (.str y)) := by
    rw [List.map_map]
    rfl
  have s1 : (((rangeD 0 n.toNat).map h).map (·.length)).sum = n.toNat := by
    have : ∀ l : List VS.D, ((l.map h).map (·.length)).sum = l.length := by
      intro l
      induction l with
      | nil => rfl
      | cons d r ih =>
        obtain ⟨c, _, e⟩ := hh d
        simp only [List.map_cons, List.sum_cons, List.length_cons, ih, e, sg_len]
        omega
    rw [this, range_len]
  refine ⟨Txt.join "" ((rangeD 0 n.toNat).map h), ?_, ?_, ?_⟩
  · have jp := join_p (ys := (rangeD 0 n.toNat).map h) (by unfold sizeB; omega)
    have r1 := rng1 h0 (by omega : n < 1000)
    have sr : srcO false .range1 (evs es ρ m) = .ok (rangeD 0 n.toNat) m := by
      rw [hes]
      show Out.of (srcS .range1 [.p (.int n)]) m = _
      rw [r1]
      rfl
    have ec : ev (.comp (.sub eg ei) (.nm j) .range1 es .no [(nm, j)]) ρ m = .ok (.v (.lst (((rangeD 0 n.toNat).map h).map fun y => F.d (.str y)))) m := by
      show (srcO false .range1 (evs es ρ m)).bind (fun ds m1 => (compL (fun ρ' m' => (tst .no (ev .no ρ' m')).calm) (fun ρ' m' => (ev (.sub eg ei) ρ' m').calm) (.nm j) (wipeR ρ [j]) ds m1).bind fun fs m2 => if fs.length ≤ sizeB then Out.ok (R.v (.lst fs)) m2 else .bad) = _
      rw [sr]
      show ((compL (fun ρ' m' => (tst .no (ev .no ρ' m')).calm) (fun ρ' m' => (ev (.sub eg ei) ρ' m').calm) (.nm j) (wipeR ρ [j]) (rangeD 0 n.toNat) m).bind fun fs m2 => if fs.length ≤ sizeB then Out.ok (R.v (.lst fs)) m2 else .bad) = _
      rw [hc]
      show (if _ ≤ sizeB then _ else Out.bad) = _
      rw [if_pos hl, e1]
    show (if mtT .join (.p (.str "")) = true then (((ev (.comp (.sub eg ei) (.nm j) .range1 es .no [(nm, j)]) ρ m).bind fun r m1 => (Out.ok [] m1).bind fun rs m2 => .ok (r :: rs) m2).bind fun rs m2 => Out.of (mtS .join (.p (.str "") :: rs)) m2) else .bad) = _
    rw [ec]
    show Out.of (mtS .join [.p (.str ""), .v (.lst (((rangeD 0 n.toNat).map h).map fun y => F.d (.str y)))]) m = _
    rw [jp]
    rfl
  · refine low_join fun y hy => ?_
    obtain ⟨d, _, rfl⟩ := List.mem_map.mp hy
    obtain ⟨c, hc, e⟩ := hh d
    rw [e]
    exact low_sg (hg c hc)
  · rw [join_len]
    exact s1
end Lk09

namespace Lk09
open PySem VS
theorem mul_p {i j : Int} (h : (-(2 ^ 64) < i ∧ i < 2 ^ 64) ∨ (-(2 ^ 64) < j ∧ j < 2 ^ 64)) : binS .Mult (.p (.int i)) (.p (.int j)) = some (.p (.int (i * j))) := by
  show (if (-(2 ^ 64) < i ∧ i < 2 ^ 64) ∨ (-(2 ^ 64) < j ∧ j < 2 ^ 64) then some (R.p (.int (i * j))) else none) = _
  rw [if_pos h]
theorem len_p {z : Str} (h : z.length ≤ sizeB) : biS .len [.p (.str z)] = some (.p (.int z.length)) := by
  show (if z.length ≤ sizeB then some (R.p (.int z.length)) else none) = _
  rw [if_pos h]
theorem cut_len (z : Str) (lo hi : Option Int) : (L2.cutS z lo hi).length ≤ z.length := L2.cutS_length z lo hi
def nE5 : E := .frz (.bin .Add (.bin .FloorDiv (.var 0) (.cst (.int 2))) (.bin .Mult (.bin .Mult (.var 4) (.cst (.int 48271))) (.bin .Mod (.var 0) (.cst (.int 2)))))
def nEi : E := .bin .Mod (.bin .Add (.bin .FloorDiv (.var 5) (.cst (.int 7))) (.bin .Mult (.cst (.int 6)) (.var 7))) (.cst (.int 25))
def nEs : E := .cons (.bin .Mod (.var 5) (.cst (.int 7))) .no
def nE6 : E := .frz (.mth .join (.cst (.str "")) (.cons (.comp (.sub (.var 2) nEi) (.nm 7) .range1 nEs .no [("_law_j", 7)]) .no))
def nE8 : E := .frz (.bin .Mod (.bin .FloorDiv (.var 5) (.cst (.int 175))) (.bin .Add (.bi .len (.cons (.var 6) .no)) (.cst (.int 1))))
def nE3 : E := .frz (.bin .Add (.bin .Add (.bin .Add (.slice (.var 6) .no (.var 8)) (.cst (.str "z"))) (.sub (.var 2) (.var 4))) (.slice (.var 6) (.var 8) .no))
def nB : S := .seq (.asg 5 nE5) (.seq (.asg 6 nE6) (.seq (.asg 8 nE8) (.seq (.append 3 nE3) .skip)))
theorem gY_len : gY.cps.toList.length = 25 := by decide
theorem names_turn {c k : Int} (hk : 0 ≤ k ∧ k < 3) (fs : List F) (hfs : fs.length < 100) (x5 x6 x7 x8 : Option R) (m : Mem) : ∃ z y5 y6 y8, Low z ∧ z.length ≤ 30 ∧
    ex 1000 nB [some (.p (.int c)), some (.p (.int 3)), some (.p (.str gY)), some (.v (.lst fs)), some (.p (.int k)), x5, x6, x7, x8] m =
      .nx [some (.p (.int c)), some (.p (.int 3)), some (.p (.str gY)), some (.v (.lst (fs ++ [.d (.str z)]))), some (.p (.int k)), y5, y6, x7, y8] m := by
  have d2 := div_p (i := c) (j := 2) (by decide) (by decide)
  have m2 := mod_p (i := c) (j := 2) (by decide)
  have u1 := mul_p (i := k) (j := 48271) (.inr (by decide))
  have h20 := Int.emod_nonneg c (show (2 : Int) ≠ 0 by decide)
  have h21 := Int.emod_lt_of_pos c (show (0 : Int) < 2 by decide)
  have u2 := mul_p (i := k * 48271) (j := c % 2) (.inr (by constructor <;> omega))
  have u3 := add_p (i := c / 2) (j := k * 48271 * (c % 2))
  generalize hM : c / 2 + k * 48271 * (c % 2) = M at *
  have a5 : ev nE5 [some (.p (.int c)), some (.p (.int 3)), some (.p (.str gY)), some (.v (.lst fs)), some (.p (.int k)), x5, x6, x7, x8] m = .ok (.p (.int M)) m := by
    simp [nE5, ev, Out.bind, Out.of, d2, m2, u1, u2, u3, F.data]
  have m7 := mod_p (i := M) (j := 7) (by decide)
  have d7 := div_p (i := M) (j := 7) (by decide) (by decide)
  have h70 := Int.emod_nonneg M (show (7 : Int) ≠ 0 by decide)
  have h71 := Int.emod_lt_of_pos M (show (0 : Int) < 7 by decide)
  obtain ⟨w, ew, lw, nw⟩ := word_ok (g := gY) gY_low (by decide) (ei := nEi) (j := 7) (m := m) (eg := .var 2) (n := M % 7) (nm := "_law_j") h70 (by omega)
    (ρ := [some (.p (.int c)), some (.p (.int 3)), some (.p (.str gY)), some (.v (.lst fs)), some (.p (.int k)), some (.p (.int M)), x6, x7, x8]) nEs (by simp [nEs, evs, ev, Out.bind, Out.of, m7]) (by simp) (fun k => by simp [ev]) fun k' => by
      have u := mul_p (i := 6) (j := k') (.inl (by decide))
      have v := add_p (i := M / 7) (j := 6 * k')
      have w := mod_p (i := M / 7 + 6 * k') (j := 25) (by decide)
      refine ⟨(M / 7 + 6 * k') % 25, by simp [nEi, ev, Out.bind, Out.of, d7, u, v, w], Int.emod_nonneg _ (by decide), ?_⟩
      rw [gY_len]
      exact Int.emod_lt_of_pos _ (by decide)
  have a6 : ev nE6 [some (.p (.int c)), some (.p (.int 3)), some (.p (.str gY)), some (.v (.lst fs)), some (.p (.int k)), some (.p (.int M)), x6, x7, x8] m = .ok (.p (.str w)) m := by
    show ((ev (.mth .join (.cst (.str "")) (.cons (.comp (.sub (.var 2) nEi) (.nm 7) .range1 nEs .no [("_law_j", 7)]) .no)) _ m).bind fun x m1 => match x with | .v f => Out.ok (R.p f.data) m1 | .w _ => .bad) = _
    rw [ew]
    rfl
  have wz : w.length ≤ sizeB := by unfold sizeB; omega
  have l1 := len_p wz
  have v1 := add_p (i := w.length) (j := 1)
  have m8 := mod_p (i := M / 175) (j := (w.length : Int) + 1) (by omega)
  have d8 := div_p (i := M) (j := 175) (by decide) (by decide)
  generalize hA : M / 175 % ((w.length : Int) + 1) = A at *
  have a8 : ev nE8 [some (.p (.int c)), some (.p (.int 3)), some (.p (.str gY)), some (.v (.lst fs)), some (.p (.int k)), some (.p (.int M)), some (.p (.str w)), x7, x8] m = .ok (.p (.int A)) m := by
    simp [nE8, ev, evs, Out.bind, Out.of, d8, l1, v1, m8, F.data]
  have s1 := slice_p (lo := none) (hi := some A) wz
  have s2 := slice_p (lo := some A) (hi := none) wz
  obtain ⟨c0, hc0, sk⟩ := sub_str (z := gY) (k := k) (by decide) hk.1 (by rw [gY_len]; omega)
  have q1 := cut_len w none (some A)
  have q2 := cut_len w (some A) none
  have zl : (Str.ofString "z").length = 1 := by decide
  have b1 := cat_p (x := L2.cutS w none (some A)) (y := "z") (by rw [zl]; unfold sizeB; omega)
  have b2 := cat_p (x := L2.cutS w none (some A) ++ "z") (y := sg c0) (by rw [app_len, zl, sg_len]; unfold sizeB; omega)
  have b3 := cat_p (x := L2.cutS w none (some A) ++ "z" ++ sg c0) (y := L2.cutS w (some A) none) (by rw [app_len, app_len, zl, sg_len]; unfold sizeB; omega)
  have lz : Low (Str.ofString "z") := by
    have k : ∀ c ∈ (Str.ofString "z").cps.toList, c ∈ LS := by decide +kernel
    exact k
  have a3 : ev nE3 [some (.p (.int c)), some (.p (.int 3)), some (.p (.str gY)), some (.v (.lst fs)), some (.p (.int k)), some (.p (.int M)), some (.p (.str w)), x7, some (.p (.int A))] m = .ok (.p (.str (L2.cutS w none (some A) ++ "z" ++ sg c0 ++ L2.cutS w (some A) none))) m := by
    simp [nE3, ev, part, Out.bind, Out.of, R.f, s1, s2, sk, b1, b2, b3, F.data]
  refine ⟨L2.cutS w none (some A) ++ "z" ++ sg c0 ++ L2.cutS w (some A) none, some (.p (.int M)), some (.p (.str w)), some (.p (.int A)), low_app (low_app (low_app (low_cut lw) lz) (low_sg (gY_low c0 hc0))) (low_cut lw), ?_, ?_⟩
  · rw [app_len, app_len, app_len, zl, sg_len]
    omega
  · have hfs' : fs.length < sizeB := by unfold sizeB; omega
    simp [nB, ex, a5, a6, a8, a3, Out.so, setSO, setE, hfs']
end Lk09

namespace Lk09
open PySem VS
theorem low_rev {z : Str} {b : Bool} (h : Low z) : Low (revT z b) := by
  intro c hc
  have hc : c ∈ ((Builtin.Str.strSliceIndices none (if b then some 0 else none) (-1) z.length).filterMap (z.cps[·]?)).toArray.toList := hc
  rw [List.toList_toArray, List.mem_filterMap] at hc
  obtain ⟨i, _, e⟩ := hc
  refine h c ?_
  have := Array.mem_of_getElem? e
  simpa using this
theorem rev_p {z : Str} {b : Bool} (h : z.length ≤ sizeB) : revS b (.p (.str z)) = some (.p (.str (revT z b))) := by
  show (if z.length ≤ sizeB then some (R.p (.str (revT z b))) else none) = _
  rw [if_pos h]
theorem revT_len (z : Str) (b : Bool) : (revT z b).length ≤ z.length := by
  have h : (Builtin.Str.strSliceIndices none (if b then some 0 else none) (-1) z.length).length ≤ z.length := by
    unfold Builtin.Str.strSliceIndices sliceRange
    rw [List.length_map, List.length_range]
    cases b
    · simp
      split <;> omega
    · simp
      split <;> omega
  show (((Builtin.Str.strSliceIndices none (if b then some 0 else none) (-1) z.length).filterMap (z.cps[·]?)).toArray).size ≤ _
  rw [List.size_toArray]
  exact Nat.le_trans (List.length_filterMap_le _ _) h
def nC : S := .seq (.ifs (.and (.cmp .Eq (.bin .Mod (.var 0) (.cst (.int 5))) (.cst (.int 3))) (.cmp .NotIn (.rev false (.sub (.var 3) (.var 4))) (.var 3)))
    (.seq (.puti 3 (.bin .Add (.var 4) (.cst (.int 1))) (.frz (.rev false (.sub (.var 3) (.var 4))))) .skip) .skip) .skip
def Nm (z : Str) : Prop := Low z ∧ z.length ≤ 30
theorem names_ok (c : Int) (m : Mem) : ∃ a b d, Nm a ∧ Nm b ∧ Nm d ∧ f__law_names [.p (.int c), .p (.int 3)] m = .ok (.v (.lst [.d (.str a), .d (.str b), .d (.str d)])) m := by
  obtain ⟨a, p5, p6, p8, la, na, t0⟩ := names_turn (c := c) (k := 0) (by omega) [] (by simp) none none none none m
  obtain ⟨b, q5, q6, q8, lb, nb, t1⟩ := names_turn (c := c) (k := 1) (by omega) [.d (.str a)] (by simp) p5 p6 none p8 m
  obtain ⟨d, r5, r6, r8, ld, nd, t2⟩ := names_turn (c := c) (k := 2) (by omega) [.d (.str a), .d (.str b)] (by simp) q5 q6 none q8 m
  simp only [List.nil_append, List.cons_append] at t0 t1 t2
  have L1 : forL (ex 1000 nB) (.nm 4) [.int 0, .int 1, .int 2] [some (.p (.int c)), some (.p (.int 3)), some (.p (.str gY)), some (.v (.lst [])), none, none, none, none, none] m =
      .nx [some (.p (.int c)), some (.p (.int 3)), some (.p (.str gY)), some (.v (.lst [.d (.str a), .d (.str b), .d (.str d)])), some (.p (.int 2)), r5, r6, none, r8] m := by
    simp [forL, setTg, setE, t0, t1, t2]
  have az : a.length ≤ sizeB := by unfold sizeB; omega
  have m5 := mod_p (i := c) (j := 5) (by decide)
  have e5 := eq_int (i := c % 5) (j := 3)
  have rv := rev_p (b := false) az
  have sb : subS (.w (.lst [.d (.str a), .d (.str b), .d (.str d)])) (.p (.int 0)) = some (.p (.str a)) := rfl
  obtain ⟨bb, hin⟩ : ∃ bb, inS (.p (.str (revT a false))) (.w (.lst [.d (.str a), .d (.str b), .d (.str d)])) = some bb := ⟨_, rfl⟩
  have ad : binS .Add (.p (.int 0)) (.p (.int 1)) = some (.p (.int 1)) := rfl
  have L2 : ∃ b', Nm b' ∧ ∃ x4, forL (ex 1000 nC) (.nm 4) [.int 0] [some (.p (.int c)), some (.p (.int 3)), some (.p (.str gY)), some (.v (.lst [.d (.str a), .d (.str b), .d (.str d)])), some (.p (.int 2)), r5, r6, none, r8] m =
      .nx [some (.p (.int c)), some (.p (.int 3)), some (.p (.str gY)), some (.v (.lst [.d (.str a), .d (.str b'), .d (.str d)])), x4, r5, r6, none, r8] m := by
    cases h5 : (c % 5 == 3) with
    | false => exact ⟨b, ⟨lb, nb⟩, some (.p (.int 0)), by simp [forL, setTg, setE, nC, ex, ev, Out.bind, Out.so, Out.of, isTr, R.f, m5, cmpS, e5, h5]⟩
    | true =>
      cases bb with
      | true => exact ⟨b, ⟨lb, nb⟩, some (.p (.int 0)), by simp [forL, setTg, setE, nC, ex, ev, Out.bind, Out.so, Out.of, isTr, R.f, m5, cmpS, e5, h5, sb, rv, hin]⟩
      | false =>
        refine ⟨revT a false, ⟨low_rev la, Nat.le_trans (revT_len a false) na⟩, some (.p (.int 0)), ?_⟩
        simp [forL, setTg, setE, nC, ex, ev, Out.bind, Out.so, Out.of, isTr, R.f, R.data, F.data, m5, cmpS, e5, h5, sb, rv, hin, ad, L2.ixN]
  obtain ⟨b', hb', x4, L2⟩ := L2
  have r3 : srcS .range3 [.p (.int 0), .p (.int 2), .p (.int 3)] = some [.int 0] := by decide
  have r1 : srcS .range1 [.p (.int 3)] = some [.int 0, .int 1, .int 2] := by decide
  have sp : binS .Sub (.p (.int 3)) (.p (.int 1)) = some (.p (.int 2)) := sub_p (i := 3) (j := 1)
  refine ⟨a, b', d, ⟨la, na⟩, hb', ⟨ld, nd⟩, ?_⟩
  have body : b__law_names = .seq (.frz 0) (.seq (.frz 1) (.seq (.asg 2 (.frz (.cst (.str gY)))) (.seq (.asg 3 (.lst .no)) (.seq (.for (.nm 4) .range1 (.cons (.var 1) .no) nB) (.seq (.for (.nm 4) .range3 (.cons (.cst (.int 0)) (.cons (.bin .Sub (.var 1) (.cst (.int 1))) (.cons (.cst (.int 3)) .no))) nC) (.seq (.retv 3) .skip)))))) := rfl
  have hs1 : srcO true .range1 (evs (.cons (.var 1) .no) [some (.p (.int c)), some (.p (.int 3)), some (.p (.str gY)), some (.v (.lst [])), none, none, none, none, none] m) = .ok [.int 0, .int 1, .int 2] m := by
    simp [srcO, evs, ev, Out.bind, R.allv, r1, Out.of]
  have hs3 : srcO true .range3 (evs (.cons (.cst (.int 0)) (.cons (.bin .Sub (.var 1) (.cst (.int 1))) (.cons (.cst (.int 3)) .no))) [some (.p (.int c)), some (.p (.int 3)), some (.p (.str gY)), some (.v (.lst [.d (.str a), .d (.str b), .d (.str d)])), some (.p (.int 2)), r5, r6, none, r8] m) = .ok [.int 0] m := by
    simp [srcO, evs, ev, Out.bind, R.allv, r3, Out.of, sp]
  have e2 : ∀ ρ, ev (.frz (.cst (.str gY))) ρ m = .ok (.p (.str gY)) m := fun _ => rfl
  have e3 : ∀ ρ, ev (.lst .no) ρ m = .ok (.v (.lst [])) m := fun _ => rfl
  refine (run_pos (n := 9) (ps := 2) rfl).trans ?_
  rw [body]
  simp [ex, e2, e3, Out.so, setSO, setE, F.data, hs1, hs3, L1, L2, runX]
end Lk09

namespace Lk09
open PySem VS
abbrev GS : List Nat := gGREAT.cps.toList
theorem great_of {c : Nat} (h : c ∈ GS) : isIn gGREAT c = true := by
  have k : ∀ c ∈ GS, isIn gGREAT c = true := by decide +kernel
  exact k c h
theorem free_of {z : Str} {c : Nat} {r : List Nat} (e : z.cps.toList = c :: r) (hc : c ∈ GS) (hr : ∀ x ∈ r, x ∈ LS) (hl : r.length ≤ 7) : isFreeB z = true := by
  have h1 : r.all (isIn gSMALL) = true := by
    rw [List.all_eq_true]
    exact fun x hx => (small_of (hr x hx)).1
  have h2 : z.length ≤ 8 := by rw [len_list, e, List.length_cons]; omega
  unfold isFreeB
  rw [e]
  simp only [great_of hc, h1, decide_eq_true h2, Bool.and_self]
theorem cut_lo {z : Str} {A : Int} (h0 : 0 ≤ A) (h : A ≤ z.length) : (L2.cutS z none (some A)).cps.toList = z.cps.toList.take A.toNat ∧ (L2.cutS z (some A) none).cps.toList = z.cps.toList.drop A.toNat := by
  obtain ⟨k, rfl⟩ : ∃ k : Nat, A = (k : Int) := ⟨A.toNat, by omega⟩
  have e1 : min k z.length = k := by omega
  unfold L2.cutS
  rw [HT.sIx_nat, HT.sIx_nat, HT.sIx_none, HT.sIx_none, e1]
  refine ⟨by simp, ?_⟩
  simp only [Int.toNat_natCast]
  rw [List.take_of_length_le]
  rw [List.length_drop, len_list]
  omega
theorem rev_mem {z : Str} {c : Nat} (h : c ∈ (revT z true).cps.toList) : c ∈ z.cps.toList.drop 1 := by
  have hc : c ∈ ((Builtin.Str.strSliceIndices none (some 0) (-1) z.length).filterMap (z.cps[·]?)).toArray.toList := h
  rw [List.toList_toArray, List.mem_filterMap] at hc
  obtain ⟨i, hi, e⟩ := hc
  have h1 : 1 ≤ i := by
    unfold Builtin.Str.strSliceIndices sliceRange at hi
    rw [List.mem_map] at hi
    obtain ⟨k, hk, rfl⟩ := hi
    rw [List.mem_range] at hk
    simp at hk ⊢
    split at hk <;> omega
  rw [← Array.getElem?_toList] at e
  have : (z.cps.toList.drop 1)[i - 1]? = some c := by
    rw [List.getElem?_drop]
    rw [show 1 + (i - 1) = i by omega]
    exact e
  exact List.mem_of_getElem? this
def gQ : Str := "qrstuv"
def rE3i : E := .bin .Mod (.bin .Add (.bin .FloorDiv (.var 0) (.cst (.int 26))) (.bin .Mult (.cst (.int 5)) (.var 4))) (.cst (.int 26))
def rE3s : E := .cons (.bin .Mod (.var 0) (.cst (.int 6))) .no
def rE3 : E := .frz (.mth .join (.cst (.str "")) (.cons (.comp (.sub (.cst (.str gSMALL)) rE3i) (.nm 4) .range1 rE3s .no [("_law_j", 4)]) .no))
def rE5 : E := .frz (.bin .Mod (.bin .FloorDiv (.var 0) (.cst (.int 6))) (.bin .Add (.bi .len (.cons (.var 3) .no)) (.cst (.int 1))))
def rE6e : E := .sub (.var 2) (.bin .Mod (.bin .Add (.var 0) (.bin .Mult (.var 7) (.bin .Mod (.bin .FloorDiv (.var 0) (.cst (.int 156))) (.cst (.int 2))))) (.cst (.int 26)))
def rE6 : E := .frz (.comp rE6e (.nm 7) .range1 (.cons (.var 1) .no) .no [("_law_k", 7)])
def rE8e : E := .bin .Add (.bin .Add (.bin .Add (.sub (.var 6) (.var 7)) (.slice (.var 3) .no (.var 5))) (.sub (.cst (.str gQ)) (.var 7))) (.slice (.var 3) (.var 5) .no)
def rE8 : E := .comp rE8e (.nm 7) .range1 (.cons (.var 1) .no) .no [("_law_k", 7)]
def rS1 : S := .ifs (.cmp .Eq (.bin .Mod (.var 0) (.cst (.int 7))) (.cst (.int 3))) (.seq (.puti 8 (.cst (.int 1)) (.frz (.bin .Add (.sub (.var 8) (.cst (.int 0))) (.cst (.str "w"))))) .skip) .skip
def rE9 : E := .frz (.bin .Add (.slice (.sub (.var 8) (.cst (.int 0))) .no (.cst (.int 1))) (.rev true (.sub (.var 8) (.cst (.int 0)))))
def rS2 : S := .ifs (.and (.cmp .Eq (.bin .Mod (.var 0) (.cst (.int 7))) (.cst (.int 5))) (.cmp .NotIn (.var 9) (.var 8))) (.seq (.puti 8 (.cst (.int 1)) (.frz (.var 9))) .skip) .skip
theorem frees_body : b__law_frees = .seq (.frz 0) (.seq (.frz 1) (.seq (.asg 2 (.frz (.cst (.str gGREAT)))) (.seq (.asg 3 rE3) (.seq (.asg 5 rE5) (.seq (.asg 6 rE6) (.seq (.asg 8 rE8) (.seq rS1 (.seq (.asg 9 rE9) (.seq rS2 (.seq (.retv 8) .skip)))))))))) := rfl
theorem comp4 {elt : E} {j : Nat} {ρ : VS.Env} {m : Mem} {nm : Str} (f : Int → Str) (h1 : evs (.cons (.var 1) .no) ρ m = .ok [.p (.int 4)] m) (hj : j < ρ.length)
    (h : ∀ k : Int, 0 ≤ k → k < 4 → ev elt ((ρ.set j none).set j (some (.p (.int k)))) m = .ok (.p (.str (f k))) m) :
    ev (.comp elt (.nm j) .range1 (.cons (.var 1) .no) .no [(nm, j)]) ρ m = .ok (.v (.lst [.d (.str (f 0)), .d (.str (f 1)), .d (.str (f 2)), .d (.str (f 3))])) m := by
  let g : VS.D → VS.D := fun d => match d with | .int k => .str (f k) | d => d
  have hc : compL (fun ρ' m' => (tst .no (ev .no ρ' m')).calm) (fun ρ' m' => (ev elt ρ' m').calm) (.nm j) (wipeR ρ [j]) (rangeD 0 4) m = .ok ((rangeD 0 4).map fun d => .d (g d)) m := by
    refine comp_map (f := g) (ρ' := fun d => (ρ.set j none).set j (some (.p d))) _ fun d hd => ?_
    obtain ⟨k, rfl, k0, k1⟩ := range_mem hd
    refine ⟨?_, rfl, ?_⟩
    · show (if j < (ρ.set j none).length then _ else none) = _
      rw [if_pos (by rw [List.length_set]; exact hj)]
      rfl
    · show (ev elt ((ρ.set j none).set j (some (.p (.int k)))) m).calm = _
      rw [h k k0 (by omega)]
      rfl
  have r1 : srcS .range1 [.p (.int 4)] = some (rangeD 0 4) := rng1 (by decide) (by decide)
  have sr : srcO false .range1 (evs (.cons (.var 1) .no) ρ m) = .ok (rangeD 0 4) m := by
    rw [h1]
    show Out.of (srcS .range1 [.p (.int 4)]) m = _
    rw [r1]
    rfl
  show (srcO false .range1 (evs (.cons (.var 1) .no) ρ m)).bind (fun ds m1 => (compL (fun ρ' m' => (tst .no (ev .no ρ' m')).calm) (fun ρ' m' => (ev elt ρ' m').calm) (.nm j) (wipeR ρ [j]) ds m1).bind fun fs m2 => if fs.length ≤ sizeB then Out.ok (R.v (.lst fs)) m2 else .bad) = _
  rw [sr]
  show ((compL (fun ρ' m' => (tst .no (ev .no ρ' m')).calm) (fun ρ' m' => (ev elt ρ' m').calm) (.nm j) (wipeR ρ [j]) (rangeD 0 4) m).bind fun fs m2 => if fs.length ≤ sizeB then Out.ok (R.v (.lst fs)) m2 else .bad) = _
  rw [hc]
  rfl
end Lk09

namespace Lk09
open PySem VS
theorem gG_len : gGREAT.cps.toList.length = 26 := by decide
theorem gS_len : gSMALL.cps.toList.length = 26 := by decide
theorem sg_chars (c : Nat) : (sg c).cps.toList = [c] := rfl
theorem cut1 {z : Str} {c : Nat} {r : List Nat} (h : z.cps.toList = c :: r) : (L2.cutS z none (some 1)).cps.toList = [c] := by
  have := (cut_lo (z := z) (A := 1) (by decide) (by rw [len_list, h, List.length_cons]; omega)).1
  rw [this, h]
  rfl
theorem ne_last {x y : Str} {g g' : Nat} {c d : List Nat} {q q' : Nat} (hx : x.cps.toList = g :: (c ++ q :: d)) (hy : y.cps.toList = g' :: (c ++ q' :: d)) (hq : q ≠ q') : x ≠ y := by
  intro e
  rw [e, hy] at hx
  have := (List.cons.inj hx).2
  have := List.append_cancel_left this
  exact hq (List.cons.inj this).1.symm
theorem frees_ok (c : Int) (m : Mem) : ∃ f0 f1 f2 f3, isFreeB f0 = true ∧ isFreeB f1 = true ∧ isFreeB f2 = true ∧ isFreeB f3 = true ∧ f0.length ≤ 8 ∧ f1.length ≤ 8 ∧ f2.length ≤ 8 ∧ f3.length ≤ 8 ∧ f0 ≠ f3 ∧ f1 ≠ f3 ∧ f2 ≠ f3 ∧
    f__law_frees [.p (.int c), .p (.int 4)] m = .ok (.v (.lst [.d (.str f0), .d (.str f1), .d (.str f2), .d (.str f3)])) m := by
  have m6 := mod_p (i := c) (j := 6) (by decide)
  have d6 := div_p (i := c) (j := 6) (by decide) (by decide)
  have d26 := div_p (i := c) (j := 26) (by decide) (by decide)
  have h60 := Int.emod_nonneg c (show (6 : Int) ≠ 0 by decide)
  have h61 := Int.emod_lt_of_pos c (show (0 : Int) < 6 by decide)
  obtain ⟨w, ew, lw, nw⟩ := word_ok (g := gSMALL) gS_low (by decide) (ei := rE3i) (j := 4) (m := m) (eg := .cst (.str gSMALL)) (n := c % 6) (nm := "_law_j") h60 (by omega)
    (ρ := [some (.p (.int c)), some (.p (.int 4)), some (.p (.str gGREAT)), none, none, none, none, none, none, none]) rE3s (by simp [rE3s, evs, ev, Out.bind, Out.of, m6]) (by simp) (fun k => by simp [ev]) fun k' => by
      have u := mul_p (i := 5) (j := k') (.inl (by decide))
      have v := add_p (i := c / 26) (j := 5 * k')
      have w := mod_p (i := c / 26 + 5 * k') (j := 26) (by decide)
      refine ⟨(c / 26 + 5 * k') % 26, by simp [rE3i, ev, Out.bind, Out.of, d26, u, v, w], Int.emod_nonneg _ (by decide), ?_⟩
      rw [gS_len]
      exact Int.emod_lt_of_pos _ (by decide)
  have a3 : ev rE3 [some (.p (.int c)), some (.p (.int 4)), some (.p (.str gGREAT)), none, none, none, none, none, none, none] m = .ok (.p (.str w)) m := by
    show ((ev (.mth .join (.cst (.str "")) (.cons (.comp (.sub (.cst (.str gSMALL)) rE3i) (.nm 4) .range1 rE3s .no [("_law_j", 4)]) .no)) _ m).bind fun x m1 => match x with | .v f => Out.ok (R.p f.data) m1 | .w _ => .bad) = _
    rw [ew]
    rfl
  have wl : w.length ≤ 5 := by omega
  have wz : w.length ≤ sizeB := by unfold sizeB; omega
  have l1 := len_p wz
  have v1 := add_p (i := w.length) (j := 1)
  have m8 := mod_p (i := c / 6) (j := (w.length : Int) + 1) (by omega)
  have hA0 := Int.emod_nonneg (c / 6) (show (w.length : Int) + 1 ≠ 0 by omega)
  have hA1 := Int.emod_lt_of_pos (c / 6) (show (0 : Int) < (w.length : Int) + 1 by omega)
  generalize hA : c / 6 % ((w.length : Int) + 1) = A at *
  have a5 : ev rE5 [some (.p (.int c)), some (.p (.int 4)), some (.p (.str gGREAT)), some (.p (.str w)), none, none, none, none, none, none] m = .ok (.p (.int A)) m := by
    simp [rE5, ev, evs, Out.bind, Out.of, d6, l1, v1, m8, F.data]
  -- the first signs
  have d156 := div_p (i := c) (j := 156) (by decide) (by decide)
  have m2 := mod_p (i := c / 156) (j := 2) (by decide)
  have h20 := Int.emod_nonneg (c / 156) (show (2 : Int) ≠ 0 by decide)
  have h21 := Int.emod_lt_of_pos (c / 156) (show (0 : Int) < 2 by decide)
  have pick : ∀ k : Int, ∃ g ∈ GS, ev rE6e [some (.p (.int c)), some (.p (.int 4)), some (.p (.str gGREAT)), some (.p (.str w)), none, some (.p (.int A)), none, some (.p (.int k)), none, none] m = .ok (.p (.str (sg g))) m := fun k => by
    have u := mul_p (i := k) (j := c / 156 % 2) (.inr (by constructor <;> omega))
    have v := add_p (i := c) (j := k * (c / 156 % 2))
    have w2 := mod_p (i := c + k * (c / 156 % 2)) (j := 26) (by decide)
    obtain ⟨g, hg, sk⟩ := sub_str (z := gGREAT) (k := (c + k * (c / 156 % 2)) % 26) (by decide) (Int.emod_nonneg _ (by decide)) (by rw [gG_len]; exact Int.emod_lt_of_pos _ (by decide))
    exact ⟨g, hg, by simp [rE6e, ev, Out.bind, Out.of, d156, m2, u, v, w2, sk]⟩
  let G : Int → Nat := fun k => Classical.choose (pick k)
  have hG : ∀ k, G k ∈ GS ∧ ev rE6e [some (.p (.int c)), some (.p (.int 4)), some (.p (.str gGREAT)), some (.p (.str w)), none, some (.p (.int A)), none, some (.p (.int k)), none, none] m = .ok (.p (.str (sg (G k)))) m := fun k => Classical.choose_spec (pick k)
  have a6 : ev rE6 [some (.p (.int c)), some (.p (.int 4)), some (.p (.str gGREAT)), some (.p (.str w)), none, some (.p (.int A)), none, none, none, none] m = .ok (.p (.lst [.str (sg (G 0)), .str (sg (G 1)), .str (sg (G 2)), .str (sg (G 3))])) m := by
    have := comp4 (elt := rE6e) (j := 7) (ρ := [some (.p (.int c)), some (.p (.int 4)), some (.p (.str gGREAT)), some (.p (.str w)), none, some (.p (.int A)), none, none, none, none]) (m := m) (nm := "_law_k") (fun k => sg (G k)) rfl (by simp) fun k _ _ => (hG k).2
    show ((ev (.comp rE6e (.nm 7) .range1 (.cons (.var 1) .no) .no [("_law_k", 7)]) _ m).bind fun x m1 => match x with | .v f => Out.ok (R.p f.data) m1 | .w _ => .bad) = _
    rw [this]
    rfl
  let Q : Int → Nat := fun k => if k = 0 then 113 else if k = 1 then 114 else if k = 2 then 115 else 116
  have hQ : ∀ k, Q k ∈ LS := fun k => by
    have h1 : (113 : Nat) ∈ LS := by decide
    have h2 : (114 : Nat) ∈ LS := by decide
    have h3 : (115 : Nat) ∈ LS := by decide
    have h4 : (116 : Nat) ∈ LS := by decide
    show (if k = 0 then 113 else if k = 1 then 114 else if k = 2 then 115 else 116) ∈ LS
    split
    · exact h1
    · split
      · exact h2
      · split
        · exact h3
        · exact h4
  have s1 := slice_p (lo := none) (hi := some A) wz
  have s2 := slice_p (lo := some A) (hi := none) wz
  have q1 := cut_len w none (some A)
  have q2 := cut_len w (some A) none
  obtain ⟨cc1, cc2⟩ := cut_lo (z := w) hA0 (by omega)
  have b1 : ∀ k, binS .Add (.p (.str (sg (G k)))) (.p (.str (L2.cutS w none (some A)))) = some (.p (.str (sg (G k) ++ L2.cutS w none (some A)))) := fun k => cat_p (by rw [sg_len]; unfold sizeB; omega)
  have b2 : ∀ k, binS .Add (.p (.str (sg (G k) ++ L2.cutS w none (some A)))) (.p (.str (sg (Q k)))) = some (.p (.str (sg (G k) ++ L2.cutS w none (some A) ++ sg (Q k)))) := fun k => cat_p (by rw [app_len, sg_len, sg_len]; unfold sizeB; omega)
  have b3 : ∀ k, binS .Add (.p (.str (sg (G k) ++ L2.cutS w none (some A) ++ sg (Q k)))) (.p (.str (L2.cutS w (some A) none))) = some (.p (.str (sg (G k) ++ L2.cutS w none (some A) ++ sg (Q k) ++ L2.cutS w (some A) none))) := fun k => cat_p (by rw [app_len, app_len, sg_len, sg_len]; unfold sizeB; omega)
  let f : Int → Str := fun k => sg (G k) ++ L2.cutS w none (some A) ++ sg (Q k) ++ L2.cutS w (some A) none
  have hf : ∀ k, (f k).cps.toList = G k :: (w.cps.toList.take A.toNat ++ Q k :: w.cps.toList.drop A.toNat) := fun k => by
    show (sg (G k) ++ L2.cutS w none (some A) ++ sg (Q k) ++ L2.cutS w (some A) none).cps.toList = _
    rw [app_chars, app_chars, app_chars, sg_chars, sg_chars, cc1, cc2]
    simp
  have hr : ∀ k, ∀ x ∈ w.cps.toList.take A.toNat ++ Q k :: w.cps.toList.drop A.toNat, x ∈ LS := fun k x hx => by
    rw [List.mem_append, List.mem_cons] at hx
    rcases hx with hx | rfl | hx
    · exact lw x (List.mem_of_mem_take hx)
    · exact hQ k
    · exact lw x (List.mem_of_mem_drop hx)
  have hrl : ∀ k, (w.cps.toList.take A.toNat ++ Q k :: w.cps.toList.drop A.toNat).length ≤ 6 := fun k => by
    have := len_list w
    rw [List.length_append, List.length_cons, List.length_take, List.length_drop]
    omega
  have fl : ∀ k, (f k).length ≤ 7 := fun k => by
    have := hrl k
    rw [len_list, hf, List.length_cons]
    omega
  have ff : ∀ k, isFreeB (f k) = true := fun k => free_of (hf k) (hG k).1 (hr k) (by have := hrl k; omega)
  have fz : ∀ k, (f k).length ≤ sizeB := fun k => by have := fl k; unfold sizeB; omega
  have a8 : ev rE8 [some (.p (.int c)), some (.p (.int 4)), some (.p (.str gGREAT)), some (.p (.str w)), none, some (.p (.int A)), some (.p (.lst [.str (sg (G 0)), .str (sg (G 1)), .str (sg (G 2)), .str (sg (G 3))])), none, none, none] m = .ok (.v (.lst [.d (.str (f 0)), .d (.str (f 1)), .d (.str (f 2)), .d (.str (f 3))])) m := by
    refine comp4 (elt := rE8e) (j := 7) f rfl (by simp) fun k k0 k1 => ?_
    have e1 : subS (.p (.lst [.str (sg (G 0)), .str (sg (G 1)), .str (sg (G 2)), .str (sg (G 3))])) (.p (.int k)) = some (.p (.str (sg (G k)))) := by
      have : k = 0 ∨ k = 1 ∨ k = 2 ∨ k = 3 := by omega
      rcases this with rfl | rfl | rfl | rfl <;> rfl
    have e2 : subS (.p (.str gQ)) (.p (.int k)) = some (.p (.str (sg (Q k)))) := by
      have : k = 0 ∨ k = 1 ∨ k = 2 ∨ k = 3 := by omega
      rcases this with rfl | rfl | rfl | rfl <;> rfl
    show ev rE8e [some (.p (.int c)), some (.p (.int 4)), some (.p (.str gGREAT)), some (.p (.str w)), none, some (.p (.int A)), some (.p (.lst [.str (sg (G 0)), .str (sg (G 1)), .str (sg (G 2)), .str (sg (G 3))])), some (.p (.int k)), none, none] m = .ok (.p (.str (sg (G k) ++ L2.cutS w none (some A) ++ sg (Q k) ++ L2.cutS w (some A) none))) m
    simp [rE8e, ev, part, Out.bind, Out.of, R.f, e1, e2, s1, s2, b1, b2, b3]
  have n03 : f 0 ≠ f 3 := ne_last (hf 0) (hf 3) (by decide)
  have n13 : f 1 ≠ f 3 := ne_last (hf 1) (hf 3) (by decide)
  have n23 : f 2 ≠ f 3 := ne_last (hf 2) (hf 3) (by decide)
  have m7 := mod_p (i := c) (j := 7) (by decide)
  have e73 := eq_int (i := c % 7) (j := 3)
  have e75 := eq_int (i := c % 7) (j := 5)
  have lwW : Low (Str.ofString "w") := by
    have k : ∀ c ∈ (Str.ofString "w").cps.toList, c ∈ LS := by decide +kernel
    exact k
  have wW : (Str.ofString "w").length = 1 := by decide
  have cw := cat_p (x := f 0) (y := "w") (by have := fl 0; rw [wW]; unfold sizeB; omega)
  have sb : ∀ x y z : Str, subS (.w (.lst [.d (.str (f 0)), .d (.str x), .d (.str y), .d (.str z)])) (.p (.int 0)) = some (.p (.str (f 0))) := fun _ _ _ => rfl
  have lL : (f 3).length = (f 0).length := by
    rw [len_list, len_list, hf, hf]
    simp
  have T1 : ∃ h1, isFreeB h1 = true ∧ h1.length ≤ 8 ∧ h1 ≠ f 3 ∧ ex 1000 rS1 [some (.p (.int c)), some (.p (.int 4)), some (.p (.str gGREAT)), some (.p (.str w)), none, some (.p (.int A)), some (.p (.lst [.str (sg (G 0)), .str (sg (G 1)), .str (sg (G 2)), .str (sg (G 3))])), none, some (.v (.lst [.d (.str (f 0)), .d (.str (f 1)), .d (.str (f 2)), .d (.str (f 3))])), none] m =
      .nx [some (.p (.int c)), some (.p (.int 4)), some (.p (.str gGREAT)), some (.p (.str w)), none, some (.p (.int A)), some (.p (.lst [.str (sg (G 0)), .str (sg (G 1)), .str (sg (G 2)), .str (sg (G 3))])), none, some (.v (.lst [.d (.str (f 0)), .d (.str h1), .d (.str (f 2)), .d (.str (f 3))])), none] m := by
    cases h : (c % 7 == 3) with
    | false => exact ⟨f 1, ff 1, by have := fl 1; omega, n13, by simp [rS1, ex, ev, Out.bind, Out.so, Out.of, isTr, R.f, m7, cmpS, e73, h]⟩
    | true =>
      refine ⟨f 0 ++ "w", ?_, ?_, ?_, ?_⟩
      · refine free_of (c := G 0) (r := (w.cps.toList.take A.toNat ++ Q 0 :: w.cps.toList.drop A.toNat) ++ (Str.ofString "w").cps.toList) (by rw [app_chars, hf]; rfl) (hG 0).1 (fun x hx => ?_) ?_
        · rw [List.mem_append] at hx
          exact hx.elim (hr 0 x) (lwW x)
        · have := hrl 0
          have e : (Str.ofString "w").cps.toList.length = 1 := by decide
          rw [List.length_append, e]
          omega
      · have := fl 0
        rw [app_len, wW]
        omega
      · intro e
        have := congrArg Str.length e
        rw [app_len, wW, lL] at this
        omega
      · simp [rS1, ex, ev, Out.bind, Out.so, Out.of, isTr, R.f, R.data, F.data, m7, cmpS, e73, h, sb, cw, L2.ixN]
  obtain ⟨h1, hh1, hl1, hn1, t1⟩ := T1
  have sl := slice_p (z := f 0) (lo := none) (hi := some 1) (fz 0)
  have rv := rev_p (z := f 0) (b := true) (fz 0)
  have tc := cut1 (hf 0)
  have tl : (L2.cutS (f 0) none (some 1)).length = 1 := by rw [len_list, tc]; rfl
  have rl := revT_len (f 0) true
  have f0l := fl 0
  have ct := cat_p (x := L2.cutS (f 0) none (some 1)) (y := revT (f 0) true) (by rw [tl]; unfold sizeB; omega)
  generalize hT : L2.cutS (f 0) none (some 1) ++ revT (f 0) true = T at *
  have Tfree : isFreeB T = true := by
    refine free_of (c := G 0) (r := (revT (f 0) true).cps.toList) (by rw [← hT, app_chars, tc]; rfl) (hG 0).1 (fun x hx => ?_) ?_
    · have := rev_mem hx
      rw [hf] at this
      exact hr 0 x this
    · rw [← len_list]; omega
  have Tlen : T.length ≤ 8 := by rw [← hT, app_len, tl]; omega
  have a9 : ev rE9 [some (.p (.int c)), some (.p (.int 4)), some (.p (.str gGREAT)), some (.p (.str w)), none, some (.p (.int A)), some (.p (.lst [.str (sg (G 0)), .str (sg (G 1)), .str (sg (G 2)), .str (sg (G 3))])), none, some (.v (.lst [.d (.str (f 0)), .d (.str h1), .d (.str (f 2)), .d (.str (f 3))])), none] m = .ok (.p (.str T)) m := by
    simp [rE9, ev, part, Out.bind, Out.of, R.f, sb, sl, rv, ct, F.data]
  have hin : inS (.p (.str T)) (.w (.lst [.d (.str (f 0)), .d (.str h1), .d (.str (f 2)), .d (.str (f 3))])) = some ([VS.D.str (f 0), .str h1, .str (f 2), .str (f 3)].any fun z => D.eqv z (.str T)) := rfl
  have T2 : ∃ h2, isFreeB h2 = true ∧ h2.length ≤ 8 ∧ h2 ≠ f 3 ∧ ex 1000 rS2 [some (.p (.int c)), some (.p (.int 4)), some (.p (.str gGREAT)), some (.p (.str w)), none, some (.p (.int A)), some (.p (.lst [.str (sg (G 0)), .str (sg (G 1)), .str (sg (G 2)), .str (sg (G 3))])), none, some (.v (.lst [.d (.str (f 0)), .d (.str h1), .d (.str (f 2)), .d (.str (f 3))])), some (.p (.str T))] m =
      .nx [some (.p (.int c)), some (.p (.int 4)), some (.p (.str gGREAT)), some (.p (.str w)), none, some (.p (.int A)), some (.p (.lst [.str (sg (G 0)), .str (sg (G 1)), .str (sg (G 2)), .str (sg (G 3))])), none, some (.v (.lst [.d (.str (f 0)), .d (.str h2), .d (.str (f 2)), .d (.str (f 3))])), some (.p (.str T))] m := by
    cases h : (c % 7 == 5) with
    | false => exact ⟨h1, hh1, hl1, hn1, by simp [rS2, ex, ev, Out.bind, Out.so, Out.of, isTr, R.f, m7, cmpS, e75, h]⟩
    | true =>
      cases hb : ([VS.D.str (f 0), .str h1, .str (f 2), .str (f 3)].any fun z => D.eqv z (.str T)) with
      | true =>
        rw [hb] at hin
        exact ⟨h1, hh1, hl1, hn1, by simp [rS2, ex, ev, Out.bind, Out.so, Out.of, isTr, R.f, m7, cmpS, e75, h, hin]⟩
      | false =>
        rw [hb] at hin
        refine ⟨T, Tfree, Tlen, fun e => ?_, by simp [rS2, ex, ev, Out.bind, Out.so, Out.of, isTr, R.f, R.data, F.data, m7, cmpS, e75, h, hin, L2.ixN]⟩
        rw [List.any_eq_false] at hb
        have := hb (.str (f 3)) (by simp)
        rw [e] at this
        exact this (by simp [D.eqv])
  obtain ⟨h2, hh2, hl2, hn2, t2⟩ := T2
  refine ⟨f 0, h2, f 2, f 3, ff 0, hh2, ff 2, ff 3, by have := fl 0; omega, hl2, by have := fl 2; omega, by have := fl 3; omega, n03, hn2, n23, ?_⟩
  have e2 : ∀ ρ, ev (.frz (.cst (.str gGREAT))) ρ m = .ok (.p (.str gGREAT)) m := fun _ => rfl
  refine (run_pos (n := 10) (ps := 2) rfl).trans ?_
  rw [frees_body]
  simp [ex, e2, Out.so, setSO, setE, F.data, a3, a5, a6, a8, t1, a9, t2, runX]
end Lk09

namespace Lk09
open PySem VS
theorem look_put {β : Type} {k j : VS.D} {v : β} : ∀ kvs : List (VS.D × β), look (VS.put kvs k v) j = if k = j then some v else look kvs j
  | [] => by simp [VS.put, look]
  | (a, x) :: r => by
    unfold VS.put
    by_cases h : a = k
    · subst h
      rw [if_pos rfl]
      simp only [look]
      by_cases h2 : a = j
      · rw [if_pos h2, if_pos h2]
      · rw [if_neg h2, if_neg h2, if_neg h2]
    · rw [if_neg h]
      simp only [look]
      by_cases h2 : a = j
      · rw [if_pos h2, if_neg (fun e => h (h2.trans e.symm))]
        rw [if_pos h2]
      · rw [if_neg h2, look_put r, if_neg h2]
theorem put_mem {k v : VS.D} {p : VS.D × VS.D} : ∀ {kvs : KV}, p ∈ VS.put kvs k v → p = (k, v) ∨ p ∈ kvs
  | [], h => by simpa [VS.put] using h
  | (a, x) :: r, h => by
    unfold VS.put at h
    split at h
    · rename_i e
      subst e
      rcases List.mem_cons.mp h with h | h
      · exact .inl h
      · exact .inr (List.mem_cons_of_mem _ h)
    · rcases List.mem_cons.mp h with h | h
      · exact .inr (h ▸ List.mem_cons_self)
      · exact (put_mem h).imp id fun h => List.mem_cons_of_mem _ h
theorem put_len {k v : VS.D} : ∀ kvs : KV, (VS.put kvs k v).length ≤ kvs.length + 1
  | [] => by simp [VS.put]
  | (a, x) :: r => by
    unfold VS.put
    split
    · simp
    · simp only [List.length_cons]
      have := put_len (k := k) (v := v) r
      omega
theorem put_keys {k v x : VS.D} : ∀ {kvs : KV}, x ∈ (VS.put kvs k v).map (·.1) → x = k ∨ x ∈ kvs.map (·.1)
  | kvs, h => by
    obtain ⟨p, hp, rfl⟩ := List.mem_map.mp h
    rcases put_mem hp with rfl | hp
    · exact .inl rfl
    · exact .inr (List.mem_map.mpr ⟨p, hp, rfl⟩)
theorem put_nd {k v : VS.D} : ∀ {kvs : KV}, (kvs.map (·.1)).Nodup → ((VS.put kvs k v).map (·.1)).Nodup
  | [], _ => by simp [VS.put]
  | (a, x) :: r, h => by
    rw [List.map_cons, List.nodup_cons] at h
    unfold VS.put
    split
    · rw [List.map_cons, List.nodup_cons]
      exact h
    · rename_i e
      rw [List.map_cons, List.nodup_cons]
      refine ⟨fun q => ?_, put_nd h.2⟩
      rcases put_keys q with q | q
      · exact e q
      · exact h.1 q
theorem put_cpk {k v : VS.D} : ∀ kvs : KV, VS.put (cpk kvs) k (.d v) = cpk (VS.put kvs k v)
  | [] => rfl
  | (a, x) :: r => by
    show VS.put ((a, F.d x) :: cpk r) k (.d v) = cpk (VS.put ((a, x) :: r) k v)
    unfold VS.put
    split
    · rfl
    · show (a, F.d x) :: VS.put (cpk r) k (.d v) = (a, F.d x) :: cpk (VS.put r k v)
      rw [put_cpk r]
theorem datak_cpk : ∀ kvs : KV, F.datak (cpk kvs) = kvs
  | [] => rfl
  | (a, x) :: r => by
    show (a, x) :: F.datak (cpk r) = _
    rw [datak_cpk r]
/-- a fill: free words, each once -/
structure Fl (kvs : KV) (n : Nat) : Prop where
  keys : ∀ p ∈ kvs, ∃ z, p.1 = .str z ∧ isFreeB z = true
  vals : ∀ p ∈ kvs, scal p.2
  nd : (kvs.map (·.1)).Nodup
  len : kvs.length ≤ n
theorem Fl.fill {kvs : KV} {n : Nat} (h : Fl kvs n) (hn : n < 100) : Fill kvs := ⟨fun p hp => let ⟨z, e, _⟩ := h.keys p hp; ⟨z, e⟩, h.vals, by have := h.len; omega⟩
theorem Fl.put {kvs : KV} {n : Nat} (h : Fl kvs n) {z : Str} {v : VS.D} (hz : isFreeB z = true) (hv : scal v) : Fl (VS.put kvs (.str z) v) (n + 1) where
  keys := fun p hp => by
    rcases put_mem hp with rfl | hp
    · exact ⟨z, rfl, hz⟩
    · exact h.keys p hp
  vals := fun p hp => by
    rcases put_mem hp with rfl | hp
    · exact hv
    · exact h.vals p hp
  nd := put_nd h.nd
  len := by have := put_len (k := .str z) (v := v) kvs; have := h.len; omega
theorem look_none {kvs : KV} {n : Nat} (h : Fl kvs n) {t : VS.D} (ht : ∀ z, t = .str z → isFreeB z = false) : look kvs t = none := by
  have hk := h.keys
  clear h
  induction kvs with
  | nil => rfl
  | cons p r ih =>
    obtain ⟨k, v⟩ := p
    obtain ⟨z, e, hz⟩ := hk _ List.mem_cons_self
    simp only at e
    subst e
    simp only [look]
    rw [if_neg (fun e => by rw [ht z e.symm] at hz; cases hz)]
    exact ih fun q hq => hk q (List.mem_cons_of_mem _ hq)
theorem look_in : ∀ {kvs : KV} {k v : VS.D}, (kvs.map (·.1)).Nodup → (k, v) ∈ kvs → look kvs k = some v
  | (a, x) :: r, k, v, nd, h => by
    rw [List.map_cons, List.nodup_cons] at nd
    simp only [look]
    rcases List.mem_cons.mp h with h | h
    · cases h
      rw [if_pos rfl]
    · rw [if_neg (fun e => nd.1 (by subst e; exact List.mem_map.mpr ⟨_, h, rfl⟩))]
      exact look_in nd.2 h
theorem eqv_scal {d : VS.D} (h : scal d) : D.eqv d d = true := by
  cases d <;> simp only [scal] at h <;> simp [D.eqv]
theorem eqvK_ok {kb : KV} (nd : (kb.map (·.1)).Nodup) : ∀ {ka : KV}, (∀ p ∈ ka, p ∈ kb ∧ scal p.2) → eqvK kb ka = true
  | [], _ => rfl
  | (k, x) :: r, h => by
    obtain ⟨h1, h2⟩ := h _ List.mem_cons_self
    simp only [eqvK, look_in nd h1, eqv_scal h2, Bool.true_and]
    exact eqvK_ok nd fun p hp => h p (List.mem_cons_of_mem _ hp)
theorem eq_dct {kvs : KV} {n : Nat} (h : Fl kvs n) {a b : R} (ha : a.f.isK = some kvs) (hb : b.f.isK = some kvs) (da : a.data.plain 40 = false) : eqS a b = some true := by
  have hf : flatK kvs = true := by
    unfold flatK
    rw [List.all_eq_true]
    intro p hp
    obtain ⟨z, e, _⟩ := h.keys p hp
    have hv := h.vals p hp
    rw [e]
    cases hq : p.2 <;> rw [hq] at hv <;> simp [scal] at hv <;> rfl
  unfold eqS
  rw [da, Bool.false_and, if_neg Bool.false_ne_true, ha]
  show (b.f.isK.bind fun kb => if flatK kvs && flatK kb then some (kvs.length == kb.length && eqvK kb kvs) else none) = _
  rw [hb]
  show (if flatK kvs && flatK kvs then some (kvs.length == kvs.length && eqvK kvs kvs) else none) = _
  rw [hf, eqvK_ok h.nd fun p hp => ⟨hp, h.vals p hp⟩]
  simp
/-- a term that stands for something -/
def Trm (kvs : KV) (t : VS.D) : Prop := (∃ i, t = .int i) ∨ (∃ z, t = .str z ∧ isFreeB z = false ∧ z.length ≤ sizeB) ∨ ∃ z v, t = .str z ∧ isFreeB z = true ∧ z.length ≤ sizeB ∧ look kvs t = some v ∧ scal v
theorem trm_ok {kvs : KV} {n : Nat} (h : Fl kvs n) {t : VS.D} (ht : Trm kvs t) : scal t ∧ valB kvs t = getB kvs t ∧ scal (valB kvs t) := by
  rcases ht with ⟨i, rfl⟩ | ⟨z, rfl, hz, hl⟩ | ⟨z, v, rfl, hz, hl, e, hv⟩
  · refine ⟨trivial, ?_, trivial⟩
    unfold getB
    rw [look_none h (fun z e => by cases e)]
    rfl
  · have hn : look kvs (.str z) = none := look_none h fun z' e => by cases e; exact hz
    have e1 : valB kvs (.str z) = .str z := by
      show (if isFreeB z then _ else _) = _
      rw [hz]
      rfl
    refine ⟨hl, ?_, by rw [e1]; exact hl⟩
    rw [e1]
    unfold getB
    rw [hn]
    rfl
  · have e1 : valB kvs (.str z) = v := by
      show (if isFreeB z then (look kvs (.str z)).getD .non else _) = _
      rw [hz, e]
      rfl
    refine ⟨hl, ?_, by rw [e1]; exact hv⟩
    rw [e1]
    unfold getB
    rw [e]
    rfl
/-- both answers alike -/
def Same (kvs : KV) (P w : VS.D) (m : Mem) : Prop := ∃ r : R, (r = .p .non ∨ ∃ kf, r = cp kf ∧ Fl kf 4) ∧ f__law_due [.p P, wp kvs, .p w] m = .ok r m ∧ f_tested [.p P, .p (.dct kvs)] m = .ok r m
theorem same_same {kvs : KV} {a b : VS.D} {w : Str} (h : Fl kvs 3) (ha : Trm kvs a) (hb : Trm kvs b) (m : Mem) : Same kvs (.tup [.str "same", a, b]) (.str w) m := by
  obtain ⟨a1, a2, a3⟩ := trm_ok h ha
  obtain ⟨b1, b2, b3⟩ := trm_ok h hb
  have hF := h.fill (by decide)
  refine ⟨_, ?_, due_same hF a1 b1 ⟨_, rfl⟩ m, by rw [tested_same hF a1 b1 a3 b3, a2, b2]⟩
  split
  · exact .inr ⟨kvs, rfl, h.keys, h.vals, h.nd, by have := h.len; omega⟩
  · exact .inl rfl
theorem same_less {kvs : KV} {a b : VS.D} {w : Str} (h : Fl kvs 3) (ha : Trm kvs a) (hb : Trm kvs b) (m : Mem) : Same kvs (.tup [.str "less", a, b]) (.str w) m := by
  obtain ⟨a1, a2, a3⟩ := trm_ok h ha
  obtain ⟨b1, b2, b3⟩ := trm_ok h hb
  have hF := h.fill (by decide)
  refine ⟨_, ?_, due_less hF a1 b1 ⟨_, rfl⟩ m, by
    rw [tested_less hF a1 b1 a3 b3, a2, b2]
    all_goals (generalize getB kvs a = x; generalize getB kvs b = y; cases x <;> cases y <;> rfl)⟩
  repeat' split
  all_goals first | exact .inl rfl | exact .inr ⟨kvs, rfl, h.keys, h.vals, h.nd, by have := h.len; omega⟩
theorem same_plus {kvs : KV} {a b c : VS.D} {w : Str} (h : Fl kvs 3) (hw : isFreeB w = true) (hwl : w.length ≤ sizeB) (hwn : look kvs (.str w) = none) (ha : Trm kvs a) (hb : Trm kvs b) (hc : Trm kvs c ∨ c = .str w) (m : Mem) : Same kvs (.tup [.str "plus", a, b, c]) (.str w) m := by
  obtain ⟨a1, a2, a3⟩ := trm_ok h ha
  obtain ⟨b1, b2, b3⟩ := trm_ok h hb
  have hF := h.fill (by decide)
  have c1 : scal c := by
    rcases hc with hc | rfl
    · exact (trm_ok h hc).1
    · exact hwl
  have me : ∀ kf : KV, Fl kf 3 → Fl kf 4 := fun kf q => ⟨q.keys, q.vals, q.nd, by have := q.len; omega⟩
  have key : ∀ i j : Int, sumB kvs c i j = dueB kvs c (.str w) i j ∧ (dueB kvs c (.str w) i j = .p .non ∨ ∃ kf, dueB kvs c (.str w) i j = cp kf ∧ Fl kf 4) := fun i j => by
    unfold sumB dueB
    cases hn : numB (.int (i + j)) with
    | false => exact ⟨rfl, .inl rfl⟩
    | true =>
      simp only [if_true]
      rcases hc with hc | rfl
      · obtain ⟨c1, c2, c3⟩ := trm_ok h hc
        have n1 : ¬ valB kvs c = .non := fun e => by rw [e] at c3; exact c3
        have n2 : D.eqv c (.str w) = false := by
          rcases hc with ⟨i, rfl⟩ | ⟨z, rfl, hz, hl⟩ | ⟨z, v, rfl, hz, hl, e, hv⟩
          · rfl
          · refine decide_eq_false fun e => ?_
            rw [e, hw] at hz
            cases hz
          · refine decide_eq_false fun e' => ?_
            rw [e', hwn] at e
            cases e
        rw [if_neg n1, n2, c2]
        refine ⟨rfl, ?_⟩
        rw [if_neg Bool.false_ne_true]
        split
        · exact .inr ⟨kvs, rfl, me kvs h⟩
        · exact .inl rfl
      · have v1 : valB kvs (.str w) = .non := by
          show (if isFreeB w then (look kvs (.str w)).getD .non else _) = _
          rw [hw, hwn]
          rfl
        have e1 : D.eqv (.str w) (.str w) = true := decide_eq_true rfl
        rw [v1, if_pos rfl, e1, if_pos rfl]
        refine ⟨rfl, .inr ⟨VS.put kvs (.str w) (.int (i + j)), by rw [put_cpk], h.put hw trivial⟩⟩
  refine ⟨_, ?_, due_plus hF a1 b1 c1 (show scal (.str w) from hwl) m, ?_⟩
  · split
    · split
      · rename_i i j _ _
        exact (key i j).2
      · exact .inl rfl
    · exact .inl rfl
  · rw [tested_plus hF a1 b1 c1 a3 b3, a2, b2]
    have k1 : ∀ i j, sumB kvs c i j = dueB kvs c (.str w) i j := fun i j => (key i j).1
    generalize getB kvs a = x
    generalize getB kvs b = y
    cases x <;> cases y <;> first | rfl | (simp only [k1])
end Lk09

namespace Lk09
open PySem VS
def tB : S := .seq (.asg 11 (.frz (.bi .dict (.cons (.var 3) .no))))
    (.seq (.asg 12 (.frz (.call "_law_due" f__law_due (.cons (.var 6) (.cons (.var 3) (.cons (.sub (.var 2) (.cst (.int 3))) .no))))))
    (.seq (.asg 13 (.call "tested" f_tested (.cons (.var 6) (.cons (.var 11) .no))))
    (.seq (.ifs (.cmp .NotEq (.var 11) (.var 3))
    (.seq (.ret (.cst (.bl false)))
    .skip)
    .skip)
    (.seq (.ifs (.cmp .Is (.var 12) (.cst .non))
    (.seq (.ret (.cmp .Is (.var 13) (.cst .non)))
    .skip)
    .skip)
    (.seq (.ifs (.or (.not (.isi (.var 13) .dict)) (.cmp .NotEq (.var 13) (.var 12)))
    (.seq (.ret (.cst (.bl false)))
    .skip)
    .skip)
    (.seq (.put 13 (.cst (.str "Z")) (.frz (.cst (.int 0))))
    (.seq (.ret (.and (.cmp .Eq (.var 11) (.var 3)) (.cmp .Eq (.call "tested" f_tested (.cons (.var 6) (.cons (.var 11) .no))) (.var 12))))
    .skip)))))))
theorem tail_ok {kvs : KV} {P : VS.D} {f0 f1 f2 f3 : Str} {x0 x1 x4 x5 x7 x8 x9 x10 : Option R} {m : Mem} (h : Fl kvs 3) (hs : Same kvs P (.str f3) m) :
    ex 1000 tB [x0, x1, some (.p (.lst [.str f0, .str f1, .str f2, .str f3])), some (.v (.dct (cpk kvs))), x4, x5, some (.p P), x7, x8, x9, x10, none, none, none] m = .ret (.p (.bl true)) m := by
  obtain ⟨r, hr, hd, ht⟩ := hs
  have d1 := dict_w (h.fill (by decide)).flat
  have dk := datak_cpk kvs
  have g3 : subS (.p (.lst [.str f0, .str f1, .str f2, .str f3])) (.p (.int 3)) = some (.p (.str f3)) := rfl
  have e1 : eqS (.p (.dct kvs)) (wp kvs) = some true := eq_dct h rfl (purek_cpk kvs) rfl
  rcases hr with rfl | ⟨kf, rfl, hk⟩
  · simp [tB, ex, ev, evs, Out.bind, Out.so, Out.of, setSO, setE, isTr, R.f, R.data, F.data, d1, dk, g3, hd, ht, cmpS, e1]
  · have dk2 := datak_cpk kf
    have e2 : eqS (wp kf) (.p (.dct kf)) = some true := eq_dct hk (purek_cpk kf) rfl rfl
    have e3 : eqS (cp kf) (.p (.dct kf)) = some true := eq_dct hk (purek_cpk kf) rfl rfl
    have k1 := (hk.fill (by decide)).kindC (t := .str "Z") (show (Str.ofString "Z").length ≤ sizeB from by decide)
    have k2 : (cpk kf).length < sizeB := by
      have := hk.len
      unfold cpk
      rw [List.length_map]
      unfold sizeB
      omega
    simp [tB, ex, ev, evs, Out.bind, Out.so, Out.of, setSO, setE, isTr, isiS, R.f, R.data, R.pd, F.data, d1, dk, dk2, g3, hd, ht, cmpS, e1, e2, e3, ty9, k1, k2]
def lB : S := .seq (.put 3 (.sub (.var 2) (.var 4)) (.frz (.call "_law_value" f__law_value (.cons (.var 1) (.cons (.call "_law_of" f__law_of (.cons (.var 0) (.cons (.bin .Add (.cst (.int 1)) (.var 4)) .no))) .no))))) .skip
theorem val_scal2 {a b d : Str} (ha : Nm a) (hb : Nm b) (hd : Nm d) {v : VS.D} (h : Val [a, b, d] v) : scal v := by
  rcases h with ⟨i, rfl, _⟩ | ⟨z, rfl, hz⟩
  · exact trivial
  · have : Nm z := by
      simp only [List.mem_cons, List.not_mem_nil, or_false] at hz
      rcases hz with rfl | rfl | rfl <;> assumption
    show z.length ≤ sizeB
    have := this.2
    unfold sizeB
    omega
theorem acc_p {ns : List Int} {k : Int} (h : 0 ≤ k) (m : Mem) : accF [.p (.scr ns), .p (.int k)] m = .ok (.p (.int (ns.getD k.toNat 0))) m := by
  show (if 0 ≤ k then Out.ok (R.p (.int (ns.getD k.toNat 0))) m else .bad) = _
  rw [if_pos h]
theorem fill_turn {kvs : KV} {n : Nat} {ns : List Int} {a b d f0 f1 f2 f3 fk : Str} {k : Int} {m : Mem} {x5 x6 x7 x8 x9 x10 x11 x12 x13 : Option R} (h : Fl kvs n) (hn : n < 50) (ha : Nm a) (hb : Nm b) (hd : Nm d) (hk0 : 0 ≤ k) (hk : subS (.p (.lst [.str f0, .str f1, .str f2, .str f3])) (.p (.int k)) = some (.p (.str fk))) (hfl : fk.length ≤ 8) :
    ∃ v, scal v ∧ ex 1000 lB [some (.p (.scr ns)), some (.p (.lst [.str a, .str b, .str d])), some (.p (.lst [.str f0, .str f1, .str f2, .str f3])), some (.v (.dct (cpk kvs))), some (.p (.int k)), x5, x6, x7, x8, x9, x10, x11, x12, x13] m =
      .nx [some (.p (.scr ns)), some (.p (.lst [.str a, .str b, .str d])), some (.p (.lst [.str f0, .str f1, .str f2, .str f3])), some (.v (.dct (cpk (VS.put kvs (.str fk) v)))), some (.p (.int k)), x5, x6, x7, x8, x9, x10, x11, x12, x13] m := by
  have ad : binS .Add (.p (.int 1)) (.p (.int k)) = some (.p (.int (1 + k))) := rfl
  have ac := acc_p (ns := ns) (k := 1 + k) (by omega) m
  generalize ns.getD (1 + k).toNat 0 = zz at *
  obtain ⟨v, ev1, hv⟩ := value_ok (a := a) (b := b) (c := d) (n := zz) m
  have k1 := (h.fill (by omega)).kindC (t := .str fk) (show fk.length ≤ sizeB by unfold sizeB; omega)
  have k2 : (cpk kvs).length < sizeB := by
    have := h.len
    unfold cpk
    rw [List.length_map]
    unfold sizeB
    omega
  have pc := put_cpk (k := .str fk) (v := v) kvs
  refine ⟨v, val_scal2 ha hb hd hv, ?_⟩
  simp [lB, ex, ev, evs, Out.bind, Out.so, Out.of, R.f, R.pd, F.data, ad, ac, ev1, hk, k1, k2, pc]
end Lk09

namespace Lk09
open PySem VS
def pL7 : E := .frz (.call "_law_term" f__law_term (.cons (.var 1) (.cons (.var 2) (.cons (.call "_law_of" f__law_of (.cons (.var 0) (.cons (.cst (.int 6)) .no))) .no))))
def pL8 : E := .frz (.comp (.mth .get2 (.var 3) (.cons (.var 9) (.cons (.var 9) .no))) (.nm 9) .plain (.cons (.slice (.var 6) (.cst (.int 1)) .no) .no) .no [("_law_term_here", 9)])
def pL10 : E := .frz (.bin .Mod (.bin .FloorDiv (.call "_law_of" f__law_of (.cons (.var 0) (.cons (.cst (.int 0)) .no))) (.cst (.int 4))) (.cst (.int 6)))
def pI1 : S := .ifs (.cmp .Lt (.var 10) (.cst (.int 2))) (.seq (.asg 7 (.frz (.sub (.var 2) (.cst (.int 3))))) .skip) .skip
def pI2 : S := .ifs (.and (.cmp2 .Lt .Lt (.cst (.int 1)) (.var 10) (.cst (.int 4))) (.and (.call "_law_number" f__law_number (.cons (.sub (.var 8) (.cst (.int 0))) .no)) (.and (.call "_law_number" f__law_number (.cons (.sub (.var 8) (.cst (.int 1))) .no)) (.call "_law_number" f__law_number (.cons (.bi .sum (.cons (.var 8) .no)) .no)))))
    (.seq (.asg 7 (.frz (.sub (.lst (.cons (.bi .sum (.cons (.var 8) .no)) (.cons (.bi .max2 (.cons (.neg (.cst (.int 999999999))) (.cons (.bin .Sub (.bi .sum (.cons (.var 8) .no)) (.cst (.int 1))) .no))) .no))) (.bin .Sub (.var 10) (.cst (.int 2)))))) .skip) .skip
def pL6 : E := .frz (.bin .Add (.var 6) (.tup (.cons (.var 7) .no)))
def pB : S := .seq (.asg 7 pL7) (.seq (.asg 8 pL8) (.seq (.asg 10 pL10) (.seq pI1 (.seq pI2 (.seq (.asg 6 pL6) .skip)))))
theorem vals2b {kvs : KV} {k a b : VS.D} {x0 x1 x2 x4 x5 x7 : Option R} (h : Fill kvs) (h1 : scal a) (h2 : scal b) (m : Mem) :
    ev pL8 [x0, x1, x2, some (.v (.dct (cpk kvs))), x4, x5, some (.p (.tup [k, a, b])), x7, none, none, none, none, none, none] m = .ok (.p (.lst [getB kvs a, getB kvs b])) m := by
  have g1 := get2_w (kvs := kvs) (h.kind h1)
  have g2 := get2_w (kvs := kvs) (h.kind h2)
  have g3 := get2_t (kvs := kvs)
  have s2 : sliceS (.v (.d (.tup [k, a, b]))) (some 1) none = some (.p (.tup [a, b])) := sl2
  have n3 : 2 ≤ sizeB := by decide
  simp [pL8, ev, evs, part, srcO, srcS, sem1, plainS, compL, wipeR, setTg, setE, tst, Out.calm, Out.bind, Out.of, R.f, R.data, F.data, F.datas, F.isLT, s2, g1, g2, g3, n3, R.allv]
/-- the second test and what it does -/
theorem I2_ok {kvs : KV} {g1 g2 : VS.D} {u : Int} {x0 x1 x2 x3 x4 x5 x6 : Option R} {last : VS.D} (h1 : scal g1) (h2 : scal g2) (hu : 0 ≤ u) (hu6 : u < 6) (m : Mem) : ∃ l2, (l2 = last ∨ (2 ≤ u ∧ ∃ i, l2 = .int i)) ∧
    ex 1000 pI2 [x0, x1, x2, x3, x4, x5, x6, some (.p last), some (.p (.lst [g1, g2])), none, some (.p (.int u)), none, none, none] m = .nx [x0, x1, x2, x3, x4, x5, x6, some (.p l2), some (.p (.lst [g1, g2])), none, some (.p (.int u)), none, none, none] m := by
  have n1 := lnum_d h1 m
  have n2 := lnum_d h2 m
  by_cases c1 : (1 : Int) < u
  · by_cases c2 : u < 4
    · cases e1 : numB g1 with
      | false => exact ⟨last, .inl rfl, by simp [pI2, ex, ev, evs, Out.bind, Out.so, Out.of, isTr, R.f, R.data, R.pd, F.data, cmpS, c1, c2, gl0, gl1, n1, n2, e1]⟩
      | true =>
        cases e2 : numB g2 with
        | false => exact ⟨last, .inl rfl, by simp [pI2, ex, ev, evs, Out.bind, Out.so, Out.of, isTr, R.f, R.data, R.pd, F.data, cmpS, c1, c2, gl0, gl1, n1, n2, e1, e2]⟩
        | true =>
          obtain ⟨i, rfl⟩ : ∃ i, g1 = .int i := by cases g1 <;> simp [numB] at e1; exact ⟨_, rfl⟩
          obtain ⟨j, rfl⟩ : ∃ j, g2 = .int j := by cases g2 <;> simp [numB] at e2; exact ⟨_, rfl⟩
          have sm : biS .sum [.p (.lst [.int i, .int j])] = some (.p (.int (i + j))) := by
            show some (R.p (.int ([i, j].sum))) = _
            simp
          have n3 := lnum_d (d := .int (i + j)) trivial m
          cases e3 : numB (.int (i + j)) with
          | false => exact ⟨last, .inl rfl, by simp [pI2, ex, ev, evs, Out.bind, Out.so, Out.of, isTr, R.f, R.data, R.pd, F.data, cmpS, c1, c2, gl0, gl1, n1, n2, e1, e2, sm, n3, e3]⟩
          | true =>
            have sp := sub_p (i := i + j) (j := 1)
            have mx : biS .max2 [.p (.int (-999999999)), .p (.int (i + j - 1))] = some (.p (.int (if i + j - 1 > -999999999 then i + j - 1 else -999999999))) := rfl
            generalize (if i + j - 1 > -999999999 then i + j - 1 else -999999999) = mm at mx
            have : u = 2 ∨ u = 3 := by omega
            rcases this with rfl | rfl
            · have s2 : binS .Sub (.p (.int 2)) (.p (.int 2)) = some (.p (.int 0)) := rfl
              refine ⟨.int (i + j), .inr ⟨by decide, _, rfl⟩, ?_⟩
              simp [pI2, ex, ev, evs, Out.bind, Out.so, Out.of, isTr, R.f, R.data, R.pd, R.vals, negS, setSO, setE, F.data, F.datas, cmpS, gl0, gl1, n1, n2, e1, e2, sm, n3, e3, sp, mx, s2]
              simp [subS, R.f, R.data, F.data, F.isLT, F.isL, F.pures, L2.atI, L2.ixN]
            · have s2 : binS .Sub (.p (.int 3)) (.p (.int 2)) = some (.p (.int 1)) := rfl
              refine ⟨.int mm, .inr ⟨by decide, _, rfl⟩, ?_⟩
              simp [pI2, ex, ev, evs, Out.bind, Out.so, Out.of, isTr, R.f, R.data, R.pd, R.vals, negS, setSO, setE, F.data, F.datas, cmpS, gl0, gl1, n1, n2, e1, e2, sm, n3, e3, sp, mx, s2]
              simp [subS, R.f, R.data, F.data, F.isLT, F.isL, F.pures, L2.atI, L2.ixN]
    · exact ⟨last, .inl rfl, by simp [pI2, ex, ev, evs, Out.bind, Out.so, Out.of, isTr, R.f, R.data, R.pd, F.data, cmpS, c1, c2]⟩
  · exact ⟨last, .inl rfl, by simp [pI2, ex, ev, evs, Out.bind, Out.so, Out.of, isTr, R.f, R.data, R.pd, F.data, cmpS, c1]⟩
end Lk09

namespace Lk09
open PySem VS
/-- what holds of the fill -/
structure FillOk (kvs : KV) (f0 f1 f2 f3 : Str) : Prop where
  fl : Fl kvs 3
  at_ : ∀ z ∈ [f0, f1, f2], ∃ v, look kvs (.str z) = some v ∧ scal v
  no : look kvs (.str f3) = none
  fr : ∀ z ∈ [f0, f1, f2, f3], isFreeB z = true ∧ z.length ≤ 8
theorem trm_of {kvs : KV} {a b d f0 f1 f2 f3 : Str} (h : FillOk kvs f0 f1 f2 f3) (ha : Nm a) (hb : Nm b) (hd : Nm d) {t : VS.D} (ht : Val [a, b, d] t ∨ ∃ z ∈ [f0, f1, f2], t = .str z) : Trm kvs t := by
  rcases ht with (⟨i, rfl, _⟩ | ⟨z, rfl, hz⟩) | ⟨z, hz, rfl⟩
  · exact .inl ⟨i, rfl⟩
  · have : Nm z := by
      simp only [List.mem_cons, List.not_mem_nil, or_false] at hz
      rcases hz with rfl | rfl | rfl <;> assumption
    exact .inr (.inl ⟨z, rfl, low_free this.1, by have := this.2; unfold sizeB; omega⟩)
  · obtain ⟨v, e, hv⟩ := h.at_ z hz
    obtain ⟨q1, q2⟩ := h.fr z (by simp only [List.mem_cons, List.not_mem_nil, or_false] at hz ⊢; rcases hz with rfl | rfl | rfl <;> simp)
    exact .inr (.inr ⟨z, v, rfl, q1, by unfold sizeB; omega, e, hv⟩)
theorem pB_ok {kvs : KV} {ns : List Int} {a b d f0 f1 f2 f3 : Str} {t1 t2 : VS.D} {x4 x5 : Option R} (h : FillOk kvs f0 f1 f2 f3) (ha : Nm a) (hb : Nm b) (hd : Nm d) (h1 : Trm kvs t1) (h2 : Trm kvs t2) (m : Mem) :
    ∃ c y7 y8 y10, (Trm kvs c ∨ c = .str f3) ∧ ex 1000 pB [some (.p (.scr ns)), some (.p (.lst [.str a, .str b, .str d])), some (.p (.lst [.str f0, .str f1, .str f2, .str f3])), some (.v (.dct (cpk kvs))), x4, x5, some (.p (.tup [.str "plus", t1, t2])), none, none, none, none, none, none, none] m =
      .nx [some (.p (.scr ns)), some (.p (.lst [.str a, .str b, .str d])), some (.p (.lst [.str f0, .str f1, .str f2, .str f3])), some (.v (.dct (cpk kvs))), x4, x5, some (.p (.tup [.str "plus", t1, t2, c])), y7, y8, none, y10, none, none, none] m := by
  have hF := h.fl.fill (by decide)
  obtain ⟨s1, v1, w1⟩ := trm_ok h.fl h1
  obtain ⟨s2, v2, w2⟩ := trm_ok h.fl h2
  rw [v1] at w1
  rw [v2] at w2
  have ac6 := acc_p (ns := ns) (k := 6) (by decide) m
  have ac0 := acc_p (ns := ns) (k := 0) (by decide) m
  generalize ns.getD (Int.toNat 6) 0 = z6 at ac6
  generalize ns.getD (Int.toNat 0) 0 = z0 at ac0
  obtain ⟨t3, et, ht⟩ := term_ok (a := a) (b := b) (c := d) (f0 := f0) (f1 := f1) (f2 := f2) (f3 := f3) (n := z6) m
  have h3 := trm_of h ha hb hd ht
  have a7 : ev pL7 [some (.p (.scr ns)), some (.p (.lst [.str a, .str b, .str d])), some (.p (.lst [.str f0, .str f1, .str f2, .str f3])), some (.v (.dct (cpk kvs))), x4, x5, some (.p (.tup [.str "plus", t1, t2])), none, none, none, none, none, none, none] m = .ok (.p t3) m := by
    simp [pL7, ev, evs, Out.bind, ac6, et, F.data]
  have a8 := vals2b (kvs := kvs) (k := .str "plus") (a := t1) (b := t2) (x0 := some (.p (.scr ns))) (x1 := some (.p (.lst [.str a, .str b, .str d]))) (x2 := some (.p (.lst [.str f0, .str f1, .str f2, .str f3]))) (x4 := x4) (x5 := x5) (x7 := some (.p t3)) hF s1 s2 m
  have d4 := div_p (i := z0) (j := 4) (by decide) (by decide)
  have m6 := mod_p (i := z0 / 4) (j := 6) (by decide)
  have u0 := Int.emod_nonneg (z0 / 4) (show (6 : Int) ≠ 0 by decide)
  have u6 := Int.emod_lt_of_pos (z0 / 4) (show (0 : Int) < 6 by decide)
  generalize z0 / 4 % 6 = u at *
  have a10 : ev pL10 [some (.p (.scr ns)), some (.p (.lst [.str a, .str b, .str d])), some (.p (.lst [.str f0, .str f1, .str f2, .str f3])), some (.v (.dct (cpk kvs))), x4, x5, some (.p (.tup [.str "plus", t1, t2])), some (.p t3), some (.p (.lst [getB kvs t1, getB kvs t2])), none, none, none, none, none] m = .ok (.p (.int u)) m := by
    simp [pL10, ev, evs, Out.bind, Out.of, ac0, d4, m6, F.data]
  have g3 : subS (.p (.lst [.str f0, .str f1, .str f2, .str f3])) (.p (.int 3)) = some (.p (.str f3)) := rfl
  have I1 : ∃ l1, (Trm kvs l1 ∨ l1 = .str f3) ∧ ex 1000 pI1 [some (.p (.scr ns)), some (.p (.lst [.str a, .str b, .str d])), some (.p (.lst [.str f0, .str f1, .str f2, .str f3])), some (.v (.dct (cpk kvs))), x4, x5, some (.p (.tup [.str "plus", t1, t2])), some (.p t3), some (.p (.lst [getB kvs t1, getB kvs t2])), none, some (.p (.int u)), none, none, none] m =
      .nx [some (.p (.scr ns)), some (.p (.lst [.str a, .str b, .str d])), some (.p (.lst [.str f0, .str f1, .str f2, .str f3])), some (.v (.dct (cpk kvs))), x4, x5, some (.p (.tup [.str "plus", t1, t2])), some (.p l1), some (.p (.lst [getB kvs t1, getB kvs t2])), none, some (.p (.int u)), none, none, none] m := by
    by_cases c : u < 2
    · exact ⟨.str f3, .inr rfl, by simp [pI1, ex, ev, Out.bind, Out.so, Out.of, isTr, R.f, R.data, F.data, cmpS, c, g3, setSO, setE]⟩
    · exact ⟨t3, .inl h3, by simp [pI1, ex, ev, Out.bind, Out.so, Out.of, isTr, R.f, R.data, F.data, cmpS, c]⟩
  obtain ⟨l1, hl1, i1⟩ := I1
  obtain ⟨l2, hl2, i2⟩ := I2_ok (kvs := kvs) (x0 := some (.p (.scr ns))) (x1 := some (.p (.lst [.str a, .str b, .str d]))) (x2 := some (.p (.lst [.str f0, .str f1, .str f2, .str f3]))) (x3 := some (.v (.dct (cpk kvs)))) (x4 := x4) (x5 := x5) (x6 := some (.p (.tup [.str "plus", t1, t2]))) (last := l1) w1 w2 u0 u6 m
  have hl : Trm kvs l2 ∨ l2 = .str f3 := by
    rcases hl2 with rfl | ⟨_, i, rfl⟩
    · exact hl1
    · exact .inl (.inl ⟨i, rfl⟩)
  have a6 : ev pL6 [some (.p (.scr ns)), some (.p (.lst [.str a, .str b, .str d])), some (.p (.lst [.str f0, .str f1, .str f2, .str f3])), some (.v (.dct (cpk kvs))), x4, x5, some (.p (.tup [.str "plus", t1, t2])), some (.p l2), some (.p (.lst [getB kvs t1, getB kvs t2])), none, some (.p (.int u)), none, none, none] m = .ok (.p (.tup [.str "plus", t1, t2, l2])) m := rfl
  refine ⟨l2, some (.p l2), some (.p (.lst [getB kvs t1, getB kvs t2])), some (.p (.int u)), hl, ?_⟩
  simp [pB, ex, Out.so, setSO, setE, a7, a8, a10, i1, i2, a6]
end Lk09

namespace Lk09
open PySem VS
def mL1 : E := .frz (.call "_law_names" f__law_names (.cons (.call "_law_of" f__law_of (.cons (.var 0) (.cons (.cst (.int 7)) .no))) (.cons (.cst (.int 3)) .no)))
def mL2 : E := .frz (.call "_law_frees" f__law_frees (.cons (.call "_law_of" f__law_of (.cons (.var 0) (.cons (.cst (.int 8)) .no))) (.cons (.cst (.int 4)) .no)))
def mL5 : E := .frz (.sub (.lst (.cons (.cst (.str "less")) (.cons (.cst (.str "same")) (.cons (.cst (.str "plus")) (.cons (.cst (.str "plus")) .no))))) (.bin .Mod (.call "_law_of" f__law_of (.cons (.var 0) (.cons (.cst (.int 0)) .no))) (.cst (.int 4))))
def mL6 : E := .frz (.tup (.cons (.var 5) (.cons (.call "_law_term" f__law_term (.cons (.var 1) (.cons (.var 2) (.cons (.call "_law_of" f__law_of (.cons (.var 0) (.cons (.cst (.int 4)) .no))) .no)))) (.cons (.call "_law_term" f__law_term (.cons (.var 1) (.cons (.var 2) (.cons (.call "_law_of" f__law_of (.cons (.var 0) (.cons (.cst (.int 5)) .no))) .no)))) .no))))
def mP : S := .ifs (.cmp .Eq (.var 5) (.cst (.str "plus"))) pB .skip
theorem law_body : b_law = .seq (.frz 0) (.seq (.asg 1 mL1) (.seq (.asg 2 mL2) (.seq (.asg 3 .dnew) (.seq (.for (.nm 4) .range1 (.cons (.cst (.int 3)) .no) lB) (.seq (.asg 5 mL5) (.seq (.asg 6 mL6) (.seq mP tB))))))) := rfl
theorem law_ok (ns : List Int) : f_law [.v (.d (.scr ns))] [] = .ok (.p (.bl true)) [] := by
  generalize hm : ([] : Mem) = m
  have ac7 := acc_p (ns := ns) (k := 7) (by decide) m
  have ac8 := acc_p (ns := ns) (k := 8) (by decide) m
  have ac0 := acc_p (ns := ns) (k := 0) (by decide) m
  have ac4 := acc_p (ns := ns) (k := 4) (by decide) m
  have ac5 := acc_p (ns := ns) (k := 5) (by decide) m
  generalize ns.getD (Int.toNat 7) 0 = z7 at ac7
  generalize ns.getD (Int.toNat 8) 0 = z8 at ac8
  generalize ns.getD (Int.toNat 0) 0 = z0 at ac0
  generalize ns.getD (Int.toNat 4) 0 = z4 at ac4
  generalize ns.getD (Int.toNat 5) 0 = z5 at ac5
  obtain ⟨a, b, d, ha, hb, hd, en⟩ := names_ok z7 m
  obtain ⟨f0, f1, f2, f3, r0, r1, r2, r3, l0, l1, l2, l3, n0, n1, n2, ef⟩ := frees_ok z8 m
  have a1 : ev mL1 [some (.p (.scr ns)), none, none, none, none, none, none, none, none, none, none, none, none, none] m = .ok (.p (.lst [.str a, .str b, .str d])) m := by
    simp [mL1, ev, evs, Out.bind, ac7, en, F.data, F.datas]
  have a2 : ev mL2 [some (.p (.scr ns)), some (.p (.lst [.str a, .str b, .str d])), none, none, none, none, none, none, none, none, none, none, none, none] m = .ok (.p (.lst [.str f0, .str f1, .str f2, .str f3])) m := by
    simp [mL2, ev, evs, Out.bind, ac8, ef, F.data, F.datas]
  have e0 : Fl [] 0 := ⟨by simp, by simp, by simp, by simp⟩
  obtain ⟨v0, hv0, t0⟩ := fill_turn (ns := ns) (k := 0) (m := m) (f1 := f1) (f2 := f2) (f3 := f3) (fk := f0) (x5 := none) (x6 := none) (x7 := none) (x8 := none) (x9 := none) (x10 := none) (x11 := none) (x12 := none) (x13 := none) e0 (by decide) ha hb hd (by decide) rfl l0
  have e1 := e0.put (v := v0) r0 hv0
  obtain ⟨v1, hv1, t1⟩ := fill_turn (ns := ns) (k := 1) (m := m) (f0 := f0) (f2 := f2) (f3 := f3) (fk := f1) (x5 := none) (x6 := none) (x7 := none) (x8 := none) (x9 := none) (x10 := none) (x11 := none) (x12 := none) (x13 := none) e1 (by decide) ha hb hd (by decide) rfl l1
  have e2 := e1.put (v := v1) r1 hv1
  obtain ⟨v2, hv2, t2⟩ := fill_turn (ns := ns) (k := 2) (m := m) (f0 := f0) (f1 := f1) (f3 := f3) (fk := f2) (x5 := none) (x6 := none) (x7 := none) (x8 := none) (x9 := none) (x10 := none) (x11 := none) (x12 := none) (x13 := none) e2 (by decide) ha hb hd (by decide) rfl l2
  have e3 := e2.put (v := v2) r2 hv2
  have lk : ∀ t, look (VS.put (VS.put (VS.put [] (.str f0) v0) (.str f1) v1) (.str f2) v2) t = if VS.D.str f2 = t then some v2 else if VS.D.str f1 = t then some v1 else if VS.D.str f0 = t then some v0 else none := fun t => by
    rw [look_put, look_put, look_put]
    rfl
  have FO : FillOk (VS.put (VS.put (VS.put [] (.str f0) v0) (.str f1) v1) (.str f2) v2) f0 f1 f2 f3 := by
    refine ⟨e3, fun z hz => ?_, ?_, fun z hz => ?_⟩
    · rw [lk]
      split
      · exact ⟨v2, rfl, hv2⟩
      · split
        · exact ⟨v1, rfl, hv1⟩
        · split
          · exact ⟨v0, rfl, hv0⟩
          · rename_i q2 q1 q0
            simp only [List.mem_cons, List.not_mem_nil, or_false] at hz
            rcases hz with rfl | rfl | rfl
            · exact absurd rfl q0
            · exact absurd rfl q1
            · exact absurd rfl q2
    · rw [lk, if_neg (fun e => n2 (by cases e; rfl)), if_neg (fun e => n1 (by cases e; rfl)), if_neg (fun e => n0 (by cases e; rfl))]
    · simp only [List.mem_cons, List.not_mem_nil, or_false] at hz
      rcases hz with rfl | rfl | rfl | rfl <;> exact ⟨by assumption, by assumption⟩
  have rg : srcO true .range1 (evs (.cons (.cst (.int 3)) .no) [some (.p (.scr ns)), some (.p (.lst [.str a, .str b, .str d])), some (.p (.lst [.str f0, .str f1, .str f2, .str f3])), some (.v (.dct [])), none, none, none, none, none, none, none, none, none, none] m) = .ok [.int 0, .int 1, .int 2] m := by
    have r1 : srcS .range1 [.p (.int 3)] = some [.int 0, .int 1, .int 2] := by decide
    simp [srcO, evs, ev, Out.bind, R.allv, r1, Out.of]
  have t0' : ex 1000 lB [some (.p (.scr ns)), some (.p (.lst [.str a, .str b, .str d])), some (.p (.lst [.str f0, .str f1, .str f2, .str f3])), some (.v (.dct [])), some (.p (.int 0)), none, none, none, none, none, none, none, none, none] m = _ := t0
  have LL : forL (ex 1000 lB) (.nm 4) [.int 0, .int 1, .int 2] [some (.p (.scr ns)), some (.p (.lst [.str a, .str b, .str d])), some (.p (.lst [.str f0, .str f1, .str f2, .str f3])), some (.v (.dct [])), none, none, none, none, none, none, none, none, none, none] m =
      .nx [some (.p (.scr ns)), some (.p (.lst [.str a, .str b, .str d])), some (.p (.lst [.str f0, .str f1, .str f2, .str f3])), some (.v (.dct (cpk (VS.put (VS.put (VS.put [] (.str f0) v0) (.str f1) v1) (.str f2) v2)))), some (.p (.int 2)), none, none, none, none, none, none, none, none, none] m := by
    simp [forL, setTg, setE, t0', t1, t2]
  generalize VS.put (VS.put (VS.put [] (.str f0) v0) (.str f1) v1) (.str f2) v2 = kvs at FO LL
  have m4 := mod_p (i := z0) (j := 4) (by decide)
  have u0 := Int.emod_nonneg z0 (show (4 : Int) ≠ 0 by decide)
  have u4 := Int.emod_lt_of_pos z0 (show (0 : Int) < 4 by decide)
  generalize z0 % 4 = u at *
  have a5 : ∃ kd : Str, (kd = "less" ∨ kd = "same" ∨ kd = "plus") ∧ ev mL5 [some (.p (.scr ns)), some (.p (.lst [.str a, .str b, .str d])), some (.p (.lst [.str f0, .str f1, .str f2, .str f3])), some (.v (.dct (cpk kvs))), some (.p (.int 2)), none, none, none, none, none, none, none, none, none] m = .ok (.p (.str kd)) m := by
    have hs : ∃ kd : Str, (kd = "less" ∨ kd = "same" ∨ kd = "plus") ∧ subS (.v (.lst [.d (.str "less"), .d (.str "same"), .d (.str "plus"), .d (.str "plus")])) (.p (.int u)) = some (.p (.str kd)) := by
      have : u = 0 ∨ u = 1 ∨ u = 2 ∨ u = 3 := by omega
      rcases this with rfl | rfl | rfl | rfl
      · exact ⟨"less", .inl rfl, rfl⟩
      · exact ⟨"same", .inr (.inl rfl), rfl⟩
      · exact ⟨"plus", .inr (.inr rfl), rfl⟩
      · exact ⟨"plus", .inr (.inr rfl), rfl⟩
    obtain ⟨kd, hk, hs⟩ := hs
    exact ⟨kd, hk, by simp [mL5, ev, evs, Out.bind, Out.of, R.vals, ac0, m4, hs, F.data]⟩
  obtain ⟨kd, hkd, a5⟩ := a5
  obtain ⟨t1', et1, ht1⟩ := term_ok (a := a) (b := b) (c := d) (f0 := f0) (f1 := f1) (f2 := f2) (f3 := f3) (n := z4) m
  obtain ⟨t2', et2, ht2⟩ := term_ok (a := a) (b := b) (c := d) (f0 := f0) (f1 := f1) (f2 := f2) (f3 := f3) (n := z5) m
  have T1 := trm_of FO ha hb hd ht1
  have T2 := trm_of FO ha hb hd ht2
  have a6 : ev mL6 [some (.p (.scr ns)), some (.p (.lst [.str a, .str b, .str d])), some (.p (.lst [.str f0, .str f1, .str f2, .str f3])), some (.v (.dct (cpk kvs))), some (.p (.int 2)), some (.p (.str kd)), none, none, none, none, none, none, none, none] m = .ok (.p (.tup [.str kd, t1', t2'])) m := by
    simp [mL6, ev, evs, Out.bind, Out.of, ac4, ac5, et1, et2, R.vals, F.mkT, F.pures, F.data]
  have hw : f3.length ≤ sizeB := by unfold sizeB; omega
  refine (run_pos (n := 14) (ps := 1) rfl).trans ?_
  rw [law_body]
  have dn : ∀ ρ, ev .dnew ρ m = .ok (.v (.dct [])) m := fun _ => rfl
  rcases hkd with rfl | rfl | rfl
  · have q : ∀ x0 x1 x2 x3 x4 x6, ex 1000 mP [x0, x1, x2, x3, x4, some (.p (.str "less")), x6, none, none, none, none, none, none, none] m = .nx [x0, x1, x2, x3, x4, some (.p (.str "less")), x6, none, none, none, none, none, none, none] m := fun x0 x1 x2 x3 x4 x6 => by
      have q1 : eqS (.p (.str "less")) (.p (.str "plus")) = some false := by decide
      simp [mP, ex, ev, Out.bind, Out.so, Out.of, isTr, R.f, cmpS, q1]
    have tl := tail_ok (x0 := some (.p (.scr ns))) (x1 := some (.p (.lst [.str a, .str b, .str d]))) (f0 := f0) (f1 := f1) (f2 := f2) (x4 := some (.p (.int 2))) (x5 := some (.p (.str "less"))) (x7 := none) (x8 := none) (x9 := none) (x10 := none) FO.fl (same_less (w := f3) FO.fl T1 T2 m)
    simp [ex, Out.so, setSO, setE, F.data, a1, a2, dn, rg, LL, a5, a6, q, tl, runX]
  · have q : ∀ x0 x1 x2 x3 x4 x6, ex 1000 mP [x0, x1, x2, x3, x4, some (.p (.str "same")), x6, none, none, none, none, none, none, none] m = .nx [x0, x1, x2, x3, x4, some (.p (.str "same")), x6, none, none, none, none, none, none, none] m := fun x0 x1 x2 x3 x4 x6 => by
      have q1 : eqS (.p (.str "same")) (.p (.str "plus")) = some false := by decide
      simp [mP, ex, ev, Out.bind, Out.so, Out.of, isTr, R.f, cmpS, q1]
    have tl := tail_ok (x0 := some (.p (.scr ns))) (x1 := some (.p (.lst [.str a, .str b, .str d]))) (f0 := f0) (f1 := f1) (f2 := f2) (x4 := some (.p (.int 2))) (x5 := some (.p (.str "same"))) (x7 := none) (x8 := none) (x9 := none) (x10 := none) FO.fl (same_same (w := f3) FO.fl T1 T2 m)
    simp [ex, Out.so, setSO, setE, F.data, a1, a2, dn, rg, LL, a5, a6, q, tl, runX]
  · obtain ⟨c, y7, y8, y10, hc, pb⟩ := pB_ok (ns := ns) (x4 := some (.p (.int 2))) (x5 := some (.p (.str "plus"))) FO ha hb hd T1 T2 m
    have q : ∀ x0 x1 x2 x3 x4 x6, ex 1000 mP [x0, x1, x2, x3, x4, some (.p (.str "plus")), x6, none, none, none, none, none, none, none] m = ex 1000 pB [x0, x1, x2, x3, x4, some (.p (.str "plus")), x6, none, none, none, none, none, none, none] m := fun x0 x1 x2 x3 x4 x6 => rfl
    have tl := tail_ok (x0 := some (.p (.scr ns))) (x1 := some (.p (.lst [.str a, .str b, .str d]))) (f0 := f0) (f1 := f1) (f2 := f2) (x4 := some (.p (.int 2))) (x5 := some (.p (.str "plus"))) (x7 := y7) (x8 := y8) (x9 := none) (x10 := y10) FO.fl (same_plus FO.fl r3 hw FO.no T1 T2 hc m)
    simp [ex, Out.so, setSO, setE, F.data, a1, a2, dn, rg, LL, a5, a6, q, pb, tl, runX]
end Lk09

set_option maxRecDepth 100000
set_option maxHeartbeats 0
namespace Lk09
open PySem PySem.Spec PyProof.Rows L2 VS
def top (i : Nat) : Stmt := PySem.Challenge.pw_whyfacts_k09_tests.main.body.getD i (.Pass ⟨0, 0, 0, 0⟩)
abbrev s_is_small : Stmt := top 5
abbrev s_is_free : Stmt := top 6
abbrev s_is_number : Stmt := top 7
abbrev s_value_of : Stmt := top 9
abbrev s_summed_of : Stmt := top 10
abbrev s_tested : Stmt := top 11
abbrev s__law_of : Stmt := top 13
abbrev s__law_names : Stmt := top 14
abbrev s__law_frees : Stmt := top 15
abbrev s__law_value : Stmt := top 16
abbrev s__law_term : Stmt := top 17
abbrev s__law_number : Stmt := top 18
abbrev s__law_due : Stmt := top 19
abbrev s_law : Stmt := top 20
theorem sc_is_small : FnScope ["text", "sign"] ["text"] (defScope s_is_small) := ⟨rfl, rfl, rfl, by decide +kernel, rfl, by decide +kernel, by decide +kernel⟩
theorem ck_is_small : ckB ["text", "sign"] (defScope s_is_small) b_is_small (defBody s_is_small) = true := by decide +kernel
theorem sc_is_free : FnScope ["thing"] ["thing"] (defScope s_is_free) := ⟨rfl, rfl, rfl, by decide +kernel, rfl, by decide +kernel, by decide +kernel⟩
theorem ck_is_free : ckB ["thing"] (defScope s_is_free) b_is_free (defBody s_is_free) = true := by decide +kernel
theorem sc_is_number : FnScope ["thing"] ["thing"] (defScope s_is_number) := ⟨rfl, rfl, rfl, by decide +kernel, rfl, by decide +kernel, by decide +kernel⟩
theorem ck_is_number : ckB ["thing"] (defScope s_is_number) b_is_number (defBody s_is_number) = true := by decide +kernel
theorem sc_value_of : FnScope ["term", "fill"] ["term", "fill"] (defScope s_value_of) := ⟨rfl, rfl, rfl, by decide +kernel, rfl, by decide +kernel, by decide +kernel⟩
theorem ck_value_of : ckB ["term", "fill"] (defScope s_value_of) b_value_of (defBody s_value_of) = true := by decide +kernel
theorem sc_summed_of : FnScope ["part", "fill", "one", "other", "total", "known", "found"] ["part", "fill", "one", "other"] (defScope s_summed_of) := ⟨rfl, rfl, rfl, by decide +kernel, rfl, by decide +kernel, by decide +kernel⟩
theorem ck_summed_of : ckB ["part", "fill", "one", "other", "total", "known", "found"] (defScope s_summed_of) b_summed_of (defBody s_summed_of) = true := by decide +kernel
theorem sc_tested : FnScope ["part", "fill", "one", "other"] ["part", "fill"] (defScope s_tested) := ⟨rfl, rfl, rfl, by decide +kernel, rfl, by decide +kernel, by decide +kernel⟩
theorem ck_tested : ckB ["part", "fill", "one", "other"] (defScope s_tested) b_tested (defBody s_tested) = true := by decide +kernel
theorem sc__law_of : FnScope ["_law_script", "_law_k"] ["_law_script", "_law_k"] (defScope s__law_of) := ⟨rfl, rfl, rfl, by decide +kernel, rfl, by decide +kernel, by decide +kernel⟩
theorem sc__law_names : FnScope ["_law_cell", "_law_many", "_law_some", "_law_names_here", "_law_k", "_law_more", "_law_word", "_law_j", "_law_at"] ["_law_cell", "_law_many"] (defScope s__law_names) := ⟨rfl, rfl, rfl, by decide +kernel, rfl, by decide +kernel, by decide +kernel⟩
theorem ck__law_names : ckB ["_law_cell", "_law_many", "_law_some", "_law_names_here", "_law_k", "_law_more", "_law_word", "_law_j", "_law_at"] (defScope s__law_names) b__law_names (defBody s__law_names) = true := by decide +kernel
theorem sc__law_frees : FnScope ["_law_cell", "_law_many", "_law_some", "_law_tail", "_law_j", "_law_at", "_law_firsts", "_law_k", "_law_free", "_law_turned"] ["_law_cell", "_law_many"] (defScope s__law_frees) := ⟨rfl, rfl, rfl, by decide +kernel, rfl, by decide +kernel, by decide +kernel⟩
theorem ck__law_frees : ckB ["_law_cell", "_law_many", "_law_some", "_law_tail", "_law_j", "_law_at", "_law_firsts", "_law_k", "_law_free", "_law_turned"] (defScope s__law_frees) b__law_frees (defBody s__law_frees) = true := by decide +kernel
theorem sc__law_value : FnScope ["_law_names_here", "_law_n", "_law_some"] ["_law_names_here", "_law_n"] (defScope s__law_value) := ⟨rfl, rfl, rfl, by decide +kernel, rfl, by decide +kernel, by decide +kernel⟩
theorem ck__law_value : ckB ["_law_names_here", "_law_n", "_law_some"] (defScope s__law_value) b__law_value (defBody s__law_value) = true := by decide +kernel
theorem sc__law_term : FnScope ["_law_names_here", "_law_free", "_law_n"] ["_law_names_here", "_law_free", "_law_n"] (defScope s__law_term) := ⟨rfl, rfl, rfl, by decide +kernel, rfl, by decide +kernel, by decide +kernel⟩
theorem ck__law_term : ckB ["_law_names_here", "_law_free", "_law_n"] (defScope s__law_term) b__law_term (defBody s__law_term) = true := by decide +kernel
theorem sc__law_number : FnScope ["_law_thing"] ["_law_thing"] (defScope s__law_number) := ⟨rfl, rfl, rfl, by decide +kernel, rfl, by decide +kernel, by decide +kernel⟩
theorem ck__law_number : ckB ["_law_thing"] (defScope s__law_number) b__law_number (defBody s__law_number) = true := by decide +kernel
theorem sc__law_due : FnScope ["_law_part", "_law_fill", "_law_fresh", "_law_values", "_law_term_here", "_law_total", "_law_due_here"] ["_law_part", "_law_fill", "_law_fresh"] (defScope s__law_due) := ⟨rfl, rfl, rfl, by decide +kernel, rfl, by decide +kernel, by decide +kernel⟩
theorem ck__law_due : ckB ["_law_part", "_law_fill", "_law_fresh", "_law_values", "_law_term_here", "_law_total", "_law_due_here"] (defScope s__law_due) b__law_due (defBody s__law_due) = true := by decide +kernel
theorem sc_law : FnScope ["_law_script", "_law_names_here", "_law_free", "_law_fill", "_law_k", "_law_kind", "_law_part", "_law_last", "_law_values", "_law_term_here", "_law_turn", "_law_handed", "_law_due_here", "_law_found"] ["_law_script"] (defScope s_law) := ⟨rfl, rfl, rfl, by decide +kernel, rfl, by decide +kernel, by decide +kernel⟩
theorem ck_law : ckB ["_law_script", "_law_names_here", "_law_free", "_law_fill", "_law_k", "_law_kind", "_law_part", "_law_last", "_law_values", "_law_term_here", "_law_turn", "_law_handed", "_law_due_here", "_law_found"] (defScope s_law) b_law (defBody s_law) = true := by decide +kernel
def d_is_small : He.DefD := ⟨("is_small", none), "is_small", "is_small", defArgs s_is_small, defBody s_is_small, defScope s_is_small, [], []⟩
def d_is_free : He.DefD := ⟨("is_free", none), "is_free", "is_free", defArgs s_is_free, defBody s_is_free, defScope s_is_free, [], []⟩
def d_is_number : He.DefD := ⟨("is_number", none), "is_number", "is_number", defArgs s_is_number, defBody s_is_number, defScope s_is_number, [], []⟩
def d_value_of : He.DefD := ⟨("value_of", none), "value_of", "value_of", defArgs s_value_of, defBody s_value_of, defScope s_value_of, [], []⟩
def d_summed_of : He.DefD := ⟨("summed_of", none), "summed_of", "summed_of", defArgs s_summed_of, defBody s_summed_of, defScope s_summed_of, [], []⟩
def d_tested : He.DefD := ⟨("tested", none), "tested", "tested", defArgs s_tested, defBody s_tested, defScope s_tested, [], []⟩
def d__law_of : He.DefD := ⟨("_law_of", none), "_law_of", "_law_of", defArgs s__law_of, defBody s__law_of, defScope s__law_of, [], []⟩
def d__law_names : He.DefD := ⟨("_law_names", none), "_law_names", "_law_names", defArgs s__law_names, defBody s__law_names, defScope s__law_names, [], []⟩
def d__law_frees : He.DefD := ⟨("_law_frees", none), "_law_frees", "_law_frees", defArgs s__law_frees, defBody s__law_frees, defScope s__law_frees, [], []⟩
def d__law_value : He.DefD := ⟨("_law_value", none), "_law_value", "_law_value", defArgs s__law_value, defBody s__law_value, defScope s__law_value, [], []⟩
def d__law_term : He.DefD := ⟨("_law_term", none), "_law_term", "_law_term", defArgs s__law_term, defBody s__law_term, defScope s__law_term, [], []⟩
def d__law_number : He.DefD := ⟨("_law_number", none), "_law_number", "_law_number", defArgs s__law_number, defBody s__law_number, defScope s__law_number, [], []⟩
def d__law_due : He.DefD := ⟨("_law_due", none), "_law_due", "_law_due", defArgs s__law_due, defBody s__law_due, defScope s__law_due, [], []⟩
def d_law : He.DefD := ⟨("law", none), "law", "law", defArgs s_law, defBody s_law, defScope s_law, [], []⟩
def fn : List He.DefD := [d_is_small, d_is_free, d_is_number, d_value_of, d_summed_of, d_tested, d__law_of, d__law_names, d__law_frees, d__law_value, d__law_term, d__law_number, d__law_due, d_law]
def fa : List He.Fa := [.glo "is_small", .glo "is_free", .glo "is_number", .glo "value_of", .glo "summed_of", .glo "tested", .glo "_law_of", .glo "_law_names", .glo "_law_frees", .glo "_law_value", .glo "_law_term", .glo "_law_number", .glo "_law_due", .glo "law", .int "MOST_SIGNS" 8, .int "MOST_NUMBER" 999999999, .str "SMALL" "abcdefghijklmnopqrstuvwxyz", .str "GREAT" "ABCDEFGHIJKLMNOPQRSTUVWXYZ", .free "len", .free "int", .free "str", .free "abs", .free "min", .free "max", .free "sum", .free "all", .free "any", .free "list", .free "tuple", .free "dict", .free "sorted", .free "isinstance", .free "range", .free "enumerate", .free "zip", .free "bool", .free "set", .free "reversed"]
abbrev R : PySem.W.OpenRow := PySem.W.OpenLaw.row PySem.Challenge.rw_whyfacts_k09_tests
abbrev hk : PySem.W.Hook := He.hookD 4 fa fn
def ob (s : PySem.W.SharedT) : He.AlD := He.obsDG 4 fa fn (HandSHeadRun.getT s)
theorem ob_eq (s : PySem.W.SharedT) : ob s = hk.obs s.abs := He.obsDG_eq (HandSHeadRun.getT_eq s)
def loose : List Str := ["MOST_SIGNS", "MOST_NUMBER", "SMALL", "GREAT", "is_small", "is_free", "is_number", "value_of", "summed_of", "tested", "_law_of", "_law_names", "_law_frees", "_law_value", "_law_term", "_law_number", "_law_due"]
theorem headrun (w : World) : HandSHeadRun.RunEq R (PySem.W.view R.prog [20]) hk ob 4000 loose w := by
  intro os
  kernel_rfl
theorem facts {P : Program} {w : World} {K : PySem.W.Frag} {h : Heap} {mg : Str → Option Value} {f : Addr} (X : K.In h) (G : h.Ns mainGlobals mg) (hfa : mg ("law" : Str) = some (.ref f)) (c : He.SaysD fa fn K) :
    ∃ fd : FuncData, (∀ (s : Shared) (v : Value), BindsTo s fd ⟨[v], []⟩ [("_law_script", v)]) ∧ ∀ base : Heap, K.In base → base.Ns mainGlobals mg → FnOk P w K mg base (L2.CX P w) 15 f fd ["_law_script"] (spF ⟨fun _ => none, K⟩ f_law) := by
  obtain ⟨fd_is_small, F_is_small⟩ := c.def_ 0 (d := d_is_small) rfl
  have m_is_small := He.glo_ok X G (c.fact 0 (f := .glo "is_small") rfl)
  obtain ⟨fd_is_free, F_is_free⟩ := c.def_ 1 (d := d_is_free) rfl
  have m_is_free := He.glo_ok X G (c.fact 1 (f := .glo "is_free") rfl)
  obtain ⟨fd_is_number, F_is_number⟩ := c.def_ 2 (d := d_is_number) rfl
  have m_is_number := He.glo_ok X G (c.fact 2 (f := .glo "is_number") rfl)
  obtain ⟨fd_value_of, F_value_of⟩ := c.def_ 3 (d := d_value_of) rfl
  have m_value_of := He.glo_ok X G (c.fact 3 (f := .glo "value_of") rfl)
  obtain ⟨fd_summed_of, F_summed_of⟩ := c.def_ 4 (d := d_summed_of) rfl
  have m_summed_of := He.glo_ok X G (c.fact 4 (f := .glo "summed_of") rfl)
  obtain ⟨fd_tested, F_tested⟩ := c.def_ 5 (d := d_tested) rfl
  have m_tested := He.glo_ok X G (c.fact 5 (f := .glo "tested") rfl)
  obtain ⟨fd__law_of, F__law_of⟩ := c.def_ 6 (d := d__law_of) rfl
  have m__law_of := He.glo_ok X G (c.fact 6 (f := .glo "_law_of") rfl)
  obtain ⟨fd__law_names, F__law_names⟩ := c.def_ 7 (d := d__law_names) rfl
  have m__law_names := He.glo_ok X G (c.fact 7 (f := .glo "_law_names") rfl)
  obtain ⟨fd__law_frees, F__law_frees⟩ := c.def_ 8 (d := d__law_frees) rfl
  have m__law_frees := He.glo_ok X G (c.fact 8 (f := .glo "_law_frees") rfl)
  obtain ⟨fd__law_value, F__law_value⟩ := c.def_ 9 (d := d__law_value) rfl
  have m__law_value := He.glo_ok X G (c.fact 9 (f := .glo "_law_value") rfl)
  obtain ⟨fd__law_term, F__law_term⟩ := c.def_ 10 (d := d__law_term) rfl
  have m__law_term := He.glo_ok X G (c.fact 10 (f := .glo "_law_term") rfl)
  obtain ⟨fd__law_number, F__law_number⟩ := c.def_ 11 (d := d__law_number) rfl
  have m__law_number := He.glo_ok X G (c.fact 11 (f := .glo "_law_number") rfl)
  obtain ⟨fd__law_due, F__law_due⟩ := c.def_ 12 (d := d__law_due) rfl
  have m__law_due := He.glo_ok X G (c.fact 12 (f := .glo "_law_due") rfl)
  obtain ⟨fd_law, F_law⟩ := c.def_ 13 (d := d_law) rfl
  have m_law := He.glo_ok X G (c.fact 13 (f := .glo "law") rfl)
  obtain ⟨t_MOST_SIGNS, m_MOST_SIGNS⟩ := He.int_ok X G (c.fact 14 (f := .int "MOST_SIGNS" 8) rfl)
  obtain ⟨t_MOST_NUMBER, m_MOST_NUMBER⟩ := He.int_ok X G (c.fact 15 (f := .int "MOST_NUMBER" 999999999) rfl)
  obtain ⟨t_SMALL, m_SMALL⟩ := He.str_ok X G (c.fact 16 (f := .str "SMALL" "abcdefghijklmnopqrstuvwxyz") rfl)
  obtain ⟨t_GREAT, m_GREAT⟩ := He.str_ok X G (c.fact 17 (f := .str "GREAT" "ABCDEFGHIJKLMNOPQRSTUVWXYZ") rfl)
  have bn : ∀ n ∈ bnames, mg n = none := by
    intro n hn
    simp only [bnames, List.mem_cons, List.not_mem_nil, or_false] at hn
    rcases hn with rfl | rfl | rfl | rfl | rfl | rfl | rfl | rfl | rfl | rfl | rfl | rfl | rfl | rfl | rfl | rfl | rfl | rfl | rfl | rfl
    · exact He.free_ok X G (c.fact 18 (f := .free "len") rfl)
    · exact He.free_ok X G (c.fact 19 (f := .free "int") rfl)
    · exact He.free_ok X G (c.fact 20 (f := .free "str") rfl)
    · exact He.free_ok X G (c.fact 21 (f := .free "abs") rfl)
    · exact He.free_ok X G (c.fact 22 (f := .free "min") rfl)
    · exact He.free_ok X G (c.fact 23 (f := .free "max") rfl)
    · exact He.free_ok X G (c.fact 24 (f := .free "sum") rfl)
    · exact He.free_ok X G (c.fact 25 (f := .free "all") rfl)
    · exact He.free_ok X G (c.fact 26 (f := .free "any") rfl)
    · exact He.free_ok X G (c.fact 27 (f := .free "list") rfl)
    · exact He.free_ok X G (c.fact 28 (f := .free "tuple") rfl)
    · exact He.free_ok X G (c.fact 29 (f := .free "dict") rfl)
    · exact He.free_ok X G (c.fact 30 (f := .free "sorted") rfl)
    · exact He.free_ok X G (c.fact 31 (f := .free "isinstance") rfl)
    · exact He.free_ok X G (c.fact 32 (f := .free "range") rfl)
    · exact He.free_ok X G (c.fact 33 (f := .free "enumerate") rfl)
    · exact He.free_ok X G (c.fact 34 (f := .free "zip") rfl)
    · exact He.free_ok X G (c.fact 35 (f := .free "bool") rfl)
    · exact He.free_ok X G (c.fact 36 (f := .free "set") rfl)
    · exact He.free_ok X G (c.fact 37 (f := .free "reversed") rfl)
  have e := hfa.symm.trans m_law
  cases e
  have B_is_small := FunD.bindsN (ps := ["text"]) F_is_small fun _ _ _ _ _ _ us hl => match us, hl with | [_], _ => rfl
  have B_is_free := FunD.bindsN (ps := ["thing"]) F_is_free fun _ _ _ _ _ _ us hl => match us, hl with | [_], _ => rfl
  have B_is_number := FunD.bindsN (ps := ["thing"]) F_is_number fun _ _ _ _ _ _ us hl => match us, hl with | [_], _ => rfl
  have B_value_of := FunD.bindsN (ps := ["term", "fill"]) F_value_of fun _ _ _ _ _ _ us hl => match us, hl with | [_, _], _ => rfl
  have B_summed_of := FunD.bindsN (ps := ["part", "fill", "one", "other"]) F_summed_of fun _ _ _ _ _ _ us hl => match us, hl with | [_, _, _, _], _ => rfl
  have B_tested := FunD.bindsN (ps := ["part", "fill"]) F_tested fun _ _ _ _ _ _ us hl => match us, hl with | [_, _], _ => rfl
  have B__law_of := FunD.bindsN (ps := ["_law_script", "_law_k"]) F__law_of fun _ _ _ _ _ _ us hl => match us, hl with | [_, _], _ => rfl
  have B__law_names := FunD.bindsN (ps := ["_law_cell", "_law_many"]) F__law_names fun _ _ _ _ _ _ us hl => match us, hl with | [_, _], _ => rfl
  have B__law_frees := FunD.bindsN (ps := ["_law_cell", "_law_many"]) F__law_frees fun _ _ _ _ _ _ us hl => match us, hl with | [_, _], _ => rfl
  have B__law_value := FunD.bindsN (ps := ["_law_names_here", "_law_n"]) F__law_value fun _ _ _ _ _ _ us hl => match us, hl with | [_, _], _ => rfl
  have B__law_term := FunD.bindsN (ps := ["_law_names_here", "_law_free", "_law_n"]) F__law_term fun _ _ _ _ _ _ us hl => match us, hl with | [_, _, _], _ => rfl
  have B__law_number := FunD.bindsN (ps := ["_law_thing"]) F__law_number fun _ _ _ _ _ _ us hl => match us, hl with | [_], _ => rfl
  have B__law_due := FunD.bindsN (ps := ["_law_part", "_law_fill", "_law_fresh"]) F__law_due fun _ _ _ _ _ _ us hl => match us, hl with | [_, _, _], _ => rfl
  have B_law := FunD.bindsN (ps := ["_law_script"]) F_law fun _ _ _ _ _ _ us hl => match us, hl with | [_], _ => rfl
  have BL := FunD.bindsA (ps := ["_law_script"]) F_law fun _ _ _ _ _ _ us hl => match us, hl with | [_], _ => rfl
  refine ⟨fd_law, fun s v => BL s [v] rfl, fun base _ _ => ?_⟩
  let M : Md := ⟨P, w, K, mg, base, fun _ => none⟩
  have G_MOST_SIGNS : GlbK M "MOST_SIGNS" c_MOST_SIGNS := ⟨_, V.int 8, m_MOST_SIGNS, ⟨t_MOST_SIGNS, rfl⟩, fun g => by simp only [c_MOST_SIGNS, Rep]⟩
  have G_MOST_NUMBER : GlbK M "MOST_NUMBER" c_MOST_NUMBER := ⟨_, V.int 999999999, m_MOST_NUMBER, ⟨t_MOST_NUMBER, rfl⟩, fun g => by simp only [c_MOST_NUMBER, Rep]⟩
  have G_SMALL : GlbK M "SMALL" c_SMALL := ⟨_, V.str "abcdefghijklmnopqrstuvwxyz", m_SMALL, ⟨t_SMALL, rfl⟩, fun g => by simp only [c_SMALL, Rep]⟩
  have G_GREAT : GlbK M "GREAT" c_GREAT := ⟨_, V.str "ABCDEFGHIJKLMNOPQRSTUVWXYZ", m_GREAT, ⟨t_GREAT, rfl⟩, fun g => by simp only [c_GREAT, Rep]⟩
  have O_is_small : FnOk P w K mg base (L2.CX P w) 1 (He.ga K "is_small") fd_is_small ["text"] (spF M.cl f_is_small) := def_ok (M := M) (fu := 1000) (k := 0) (He5.fun_of F_is_small) sc_is_small bn ck_is_small (by
    simp only [b_is_small, S.Lk, E.Lk]
    repeat' apply And.intro
    all_goals first | trivial | exact G_SMALL)
  have D_is_small : DefOk M 1 "is_small" f_is_small := ⟨_, _, _, O_is_small, m_is_small, F_is_small.kp, B_is_small⟩
  have O_is_free : FnOk P w K mg base (L2.CX P w) 2 (He.ga K "is_free") fd_is_free ["thing"] (spF M.cl f_is_free) := def_ok (M := M) (fu := 1000) (k := 1) (He5.fun_of F_is_free) sc_is_free bn ck_is_free (by
    simp only [b_is_free, S.Lk, E.Lk]
    repeat' apply And.intro
    all_goals first | trivial | exact D_is_small.mono (by decide) | exact G_GREAT | exact G_MOST_SIGNS)
  have D_is_free : DefOk M 2 "is_free" f_is_free := ⟨_, _, _, O_is_free, m_is_free, F_is_free.kp, B_is_free⟩
  have O_is_number : FnOk P w K mg base (L2.CX P w) 3 (He.ga K "is_number") fd_is_number ["thing"] (spF M.cl f_is_number) := def_ok (M := M) (fu := 1000) (k := 2) (He5.fun_of F_is_number) sc_is_number bn ck_is_number (by
    simp only [b_is_number, S.Lk, E.Lk]
    repeat' apply And.intro
    all_goals first | trivial | exact G_MOST_NUMBER)
  have D_is_number : DefOk M 3 "is_number" f_is_number := ⟨_, _, _, O_is_number, m_is_number, F_is_number.kp, B_is_number⟩
  have O_value_of : FnOk P w K mg base (L2.CX P w) 4 (He.ga K "value_of") fd_value_of ["term", "fill"] (spF M.cl f_value_of) := def_ok (M := M) (fu := 1000) (k := 3) (He5.fun_of F_value_of) sc_value_of bn ck_value_of (by
    simp only [b_value_of, S.Lk, E.Lk]
    repeat' apply And.intro
    all_goals first | trivial | exact D_is_free.mono (by decide))
  have D_value_of : DefOk M 4 "value_of" f_value_of := ⟨_, _, _, O_value_of, m_value_of, F_value_of.kp, B_value_of⟩
  have O_summed_of : FnOk P w K mg base (L2.CX P w) 5 (He.ga K "summed_of") fd_summed_of ["part", "fill", "one", "other"] (spF M.cl f_summed_of) := def_ok (M := M) (fu := 1000) (k := 4) (He5.fun_of F_summed_of) sc_summed_of bn ck_summed_of (by
    simp only [b_summed_of, S.Lk, E.Lk]
    repeat' apply And.intro
    all_goals first | trivial | exact D_value_of.mono (by decide) | exact D_is_number.mono (by decide))
  have D_summed_of : DefOk M 5 "summed_of" f_summed_of := ⟨_, _, _, O_summed_of, m_summed_of, F_summed_of.kp, B_summed_of⟩
  have O_tested : FnOk P w K mg base (L2.CX P w) 6 (He.ga K "tested") fd_tested ["part", "fill"] (spF M.cl f_tested) := def_ok (M := M) (fu := 1000) (k := 5) (He5.fun_of F_tested) sc_tested bn ck_tested (by
    simp only [b_tested, S.Lk, E.Lk]
    repeat' apply And.intro
    all_goals first | trivial | exact D_value_of.mono (by decide) | exact D_summed_of.mono (by decide) | exact D_is_number.mono (by decide))
  have D_tested : DefOk M 6 "tested" f_tested := ⟨_, _, _, O_tested, m_tested, F_tested.kp, B_tested⟩
  have D__law_of : DefOk M 1 "_law_of" f__law_of := ⟨_, _, _, acc_ok (M := M) (He5.fun_of F__law_of) sc__law_of (by decide) (by decide) rfl, m__law_of, F__law_of.kp, B__law_of⟩
  have O__law_names : FnOk P w K mg base (L2.CX P w) 8 (He.ga K "_law_names") fd__law_names ["_law_cell", "_law_many"] (spF M.cl f__law_names) := def_ok (M := M) (fu := 1000) (k := 7) (He5.fun_of F__law_names) sc__law_names bn ck__law_names (by
    simp only [b__law_names, S.Lk, E.Lk]
    repeat' apply And.intro
    all_goals first | trivial)
  have D__law_names : DefOk M 8 "_law_names" f__law_names := ⟨_, _, _, O__law_names, m__law_names, F__law_names.kp, B__law_names⟩
  have O__law_frees : FnOk P w K mg base (L2.CX P w) 9 (He.ga K "_law_frees") fd__law_frees ["_law_cell", "_law_many"] (spF M.cl f__law_frees) := def_ok (M := M) (fu := 1000) (k := 8) (He5.fun_of F__law_frees) sc__law_frees bn ck__law_frees (by
    simp only [b__law_frees, S.Lk, E.Lk]
    repeat' apply And.intro
    all_goals first | trivial)
  have D__law_frees : DefOk M 9 "_law_frees" f__law_frees := ⟨_, _, _, O__law_frees, m__law_frees, F__law_frees.kp, B__law_frees⟩
  have O__law_value : FnOk P w K mg base (L2.CX P w) 10 (He.ga K "_law_value") fd__law_value ["_law_names_here", "_law_n"] (spF M.cl f__law_value) := def_ok (M := M) (fu := 1000) (k := 9) (He5.fun_of F__law_value) sc__law_value bn ck__law_value (by
    simp only [b__law_value, S.Lk, E.Lk]
    repeat' apply And.intro
    all_goals first | trivial)
  have D__law_value : DefOk M 10 "_law_value" f__law_value := ⟨_, _, _, O__law_value, m__law_value, F__law_value.kp, B__law_value⟩
  have O__law_term : FnOk P w K mg base (L2.CX P w) 11 (He.ga K "_law_term") fd__law_term ["_law_names_here", "_law_free", "_law_n"] (spF M.cl f__law_term) := def_ok (M := M) (fu := 1000) (k := 10) (He5.fun_of F__law_term) sc__law_term bn ck__law_term (by
    simp only [b__law_term, S.Lk, E.Lk]
    repeat' apply And.intro
    all_goals first | trivial | exact D__law_value.mono (by decide))
  have D__law_term : DefOk M 11 "_law_term" f__law_term := ⟨_, _, _, O__law_term, m__law_term, F__law_term.kp, B__law_term⟩
  have O__law_number : FnOk P w K mg base (L2.CX P w) 12 (He.ga K "_law_number") fd__law_number ["_law_thing"] (spF M.cl f__law_number) := def_ok (M := M) (fu := 1000) (k := 11) (He5.fun_of F__law_number) sc__law_number bn ck__law_number (by
    simp only [b__law_number, S.Lk, E.Lk]
    repeat' apply And.intro
    all_goals first | trivial)
  have D__law_number : DefOk M 12 "_law_number" f__law_number := ⟨_, _, _, O__law_number, m__law_number, F__law_number.kp, B__law_number⟩
  have O__law_due : FnOk P w K mg base (L2.CX P w) 13 (He.ga K "_law_due") fd__law_due ["_law_part", "_law_fill", "_law_fresh"] (spF M.cl f__law_due) := def_ok (M := M) (fu := 1000) (k := 12) (He5.fun_of F__law_due) sc__law_due bn ck__law_due (by
    simp only [b__law_due, S.Lk, E.Lk]
    repeat' apply And.intro
    all_goals first | trivial | exact D__law_number.mono (by decide))
  have D__law_due : DefOk M 13 "_law_due" f__law_due := ⟨_, _, _, O__law_due, m__law_due, F__law_due.kp, B__law_due⟩
  have O_law : FnOk P w K mg base (L2.CX P w) 14 (He.ga K "law") fd_law ["_law_script"] (spF M.cl f_law) := def_ok (M := M) (fu := 1000) (k := 13) (He5.fun_of F_law) sc_law bn ck_law (by
    simp only [b_law, S.Lk, E.Lk]
    repeat' apply And.intro
    all_goals first | trivial | exact D__law_names.mono (by decide) | exact D__law_frees.mono (by decide) | exact D__law_due.mono (by decide) | exact D_tested.mono (by decide) | exact D__law_of.mono (by decide) | exact D__law_value.mono (by decide) | exact D__law_term.mono (by decide) | exact D__law_number.mono (by decide))
  exact O_law.mono (by decide)
end Lk09
open PySem PySem.W PySem.Calls PyProof.Rows
theorem Lk09.ends (hlaw : ∀ ns : List Int, ns.length ≤ 63 → Lk09.f_law [.v (.d (.scr ns))] [] = .ok (.p (.bl true)) []) : PySem.Challenge.rw_whyfacts_k09_tests.Holds := by
  w_on; o_law
  refine HandSHeadRun.head_any (r := OpenLaw.row PySem.Challenge.rw_whyfacts_k09_tests) (q := view (OpenLaw.row PySem.Challenge.rw_whyfacts_k09_tests).prog [20]) (H := Lk09.hk) (ob := Lk09.ob) (M := 4000) (loose := Lk09.loose) (d := HandSHeadRun.topDef (OpenLaw.row PySem.Challenge.rw_whyfacts_k09_tests).prog 20) (kwd := []) Lk09.ob_eq
    (by kernel_rfl) (fun s => by kernel_rfl) Lk09.headrun (by kernel_rfl) (by kernel_rfl) (by kernel_rfl) (by rfl) (by first | assumption | decide +kernel) (by decide +kernel) ⟨rfl, rfl, rfl, rfl, rfl, by decide +kernel⟩ ?hw ?hc
  case hw => w_witness2
  case hc =>
    refine VS.walk_ofX (l := PySem.Challenge.rw_whyfacts_k09_tests) (n := 63) (k := 15) (x := "_law_script") (CX := fun w => L2.CX PySem.Challenge.rw_whyfacts_k09_tests.prog w) rfl (by decide) (by kernel_rfl) ⟨rfl, by decide, by decide⟩ ?F VS.noCX
    intro w mg fa h Y G hmg0
    obtain ⟨K, KX, c⟩ := Y
    have hmg : mg ("law" : PySem.Str) = some (.ref fa) := by
      have e : (HandSHeadRun.topDef (OpenLaw.row PySem.Challenge.rw_whyfacts_k09_tests).prog 20).name = ("law" : PySem.Str) := by kernel_rfl
      rw [← e]
      exact hmg0
    obtain ⟨fd, hb, hF⟩ := Lk09.facts (P := (PySem.Challenge.rw_whyfacts_k09_tests).prog) (w := w) KX G hmg c
    exact ⟨K, fd, _, KX, hb, fun H a ns hl hO hS => VS.sp_law (hlaw ns hl) hO hS, hF⟩

theorem PySem.Challenge.cw_whyfacts_k09_tests_holds : PySem.Challenge.rw_whyfacts_k09_tests.Holds :=
  Lk09.ends fun ns _ => Lk09.law_ok ns
