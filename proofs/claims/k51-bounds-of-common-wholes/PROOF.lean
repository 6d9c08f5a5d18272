import PyProof.Rows.All
import Wide.All
import OpenK.AllK
import Wide.FinOn
import PyProof.EqLayable
import PyProof.ReprReads
import PyProof.Claim2
import HandS.ForMost
import HandS.ForExc
import HandS.More
import HandS.Wide
import HandS.WideBits
import HandS.Gcd
import HandS.TupAny
import HandS.TupMul
import HandS.TupLen
import HandS.WordsDict
import HandS.Small
import HandS.Zip
import HandS.Rev
import HandS.Walk
import HandS.Deep
import HandS.IsInst
import HandS.TryMany
import HandS.ExcOwn
import HandS.ExcInit
import HandS.WordsExc
import HandS.Conv
import HandS.Style
import HandS.Lambda
import HandS.Defaults
import KE.KExcSuper
import HandS.ExcSuper
import HandS.ExcField
import PyProof.ReprRoads
import PyProof.ReprLen
import PyProof.StrLawsRepr
import PyProof.CallFns
import PyProof.FitsInt
import HandS.Dict
import HandS.EndTab
import HandS.HeadWalk
import HandS.HeadHook4
import HandS.Flt
import HandS.Head0
import HandS.Head1
import HandS.Head2
import HandS.Head3
import HandS.ExcIs
import HandS.Zip0
import HandS.RevTup
import HandS.RevRange
import PyProof.ZipIter
import HandS.ClsMeth
import KE.GoesMore
import PyProof.EnumMake
import HandS.SortInts
import HandS.SortRule
import PyProof.MaxThree
import KE.DataFind
import PySem.Challenge.RW_stepswithin_k51_whole_bounds_of_common_w
set_option Elab.async false
set_option Elab.async false
set_option linter.all false
/-! Sx1: the value semantics (own work): data, ownership, combinators. -/
namespace Sx
open PySem

inductive D where
  | non | bl (b : Bool) | int (i : Int) | str (x : Str)
  | tup (ds : List D) | lst (ds : List D)
  | dk (kvs : List (Int × D)) | dt (kvs : List (List Int × D))
  | fn (n : Nat) | exc (c : Nat) (fs : List (Str × D)) | st

/-- shared, owned, borrowed -/
inductive Tag where
  | sh | ow | bw
structure B where
  t : Tag
  d : D
abbrev Ro := List (Option B)
/-- the draw state: cells, what is left of them, the count -/
structure GS where
  cells : List Int
  lefts : List Int
  pos : Int
abbrev G := Option GS
structure Ex where
  c : Nat
  fs : List (Str × D)
inductive R (α : Type) where
  | ok (a : α) (g : G) | er (x : Ex) (g : G) | no
def R.bind {α β : Type} (r : R α) (f : α → G → R β) : R β :=
  match r with
  | .ok a g => f a g
  | .er x g => .er x g
  | .no => .no
inductive SR where
  | nx (ρ : Ro) (g : G) | rt (b : B) (g : G) | bk (ρ : Ro) (g : G) | ct (ρ : Ro) (g : G) | er (x : Ex) (ρ : Ro) (g : G) | no
abbrev E := Ro → G → R B
abbrev S := Ro → G → SR
abbrev Fn := List D → G → R B
abbrev It := Ro → G → R (List D)
abbrev sh (d : D) : B := ⟨.sh, d⟩
abbrev ow (d : D) : B := ⟨.ow, d⟩
abbrev bw (d : D) : B := ⟨.bw, d⟩
def LIM : Nat := 1000000


/-! ### forcing: k at x, x made plain first (for the kernel) -/
universe u
def fN {α : Sort u} (n : Nat) (k : Nat → α) : α := Nat.rec (motive := fun _ => α) (k 0) (fun m _ => k (m + 1)) n
def fI {α : Sort u} (i : Int) (k : Int → α) : α := match i with | .ofNat n => fN n fun m => k (.ofNat m) | .negSucc n => fN n fun m => k (.negSucc m)
mutual
def fD {α : Sort u} : D → (D → α) → α
  | .int i, k => fI i fun j => k (.int j)
  | .tup ds, k => fDs ds fun es => k (.tup es)
  | .lst ds, k => fDs ds fun es => k (.lst es)
  | .bl b, k => (match b with | true => k (.bl true) | false => k (.bl false))
  | d, k => k d
def fDs {α : Sort u} : List D → (List D → α) → α
  | [], k => k []
  | d :: ds, k => fD d fun e => fDs ds fun es => k (e :: es)
end
def fB {α : Sort u} (b : B) (k : B → α) : α := match b with | ⟨t, d⟩ => match t with | .sh => fD d fun e => k ⟨.sh, e⟩ | .ow => fD d fun e => k ⟨.ow, e⟩ | .bw => fD d fun e => k ⟨.bw, e⟩
def setK {α : Type} {β : Sort u} : List α → Nat → α → (List α → β) → β
  | [], _, _, k => k []
  | _ :: as, 0, x, k => k (x :: as)
  | a :: as, n + 1, x, k => setK as n x fun r => k (a :: r)
theorem fN_eq {α : Sort u} (n : Nat) (k : Nat → α) : fN n k = k n := by cases n <;> rfl
theorem fI_eq {α : Sort u} (i : Int) (k : Int → α) : fI i k = k i := by
  cases i with
  | ofNat n => exact fN_eq n fun m => k (.ofNat m)
  | negSucc n => exact fN_eq n fun m => k (.negSucc m)
mutual
theorem fD_eq {α : Sort u} : ∀ (d : D) (k : D → α), fD d k = k d
  | .int i, k => by rw [fD]; exact fI_eq _ _
  | .tup ds, k => by rw [fD]; exact fDs_eq ds _
  | .lst ds, k => by rw [fD]; exact fDs_eq ds _
  | .bl b, k => by cases b <;> simp only [fD]
  | .non, k => by simp only [fD]
  | .str _, k => by simp only [fD]
  | .dk _, k => by simp only [fD]
  | .dt _, k => by simp only [fD]
  | .fn _, k => by simp only [fD]
  | .exc _ _, k => by simp only [fD]
  | .st, k => by simp only [fD]
theorem fDs_eq {α : Sort u} : ∀ (ds : List D) (k : List D → α), fDs ds k = k ds
  | [], k => by simp only [fDs]
  | d :: ds, k => by rw [fDs, fD_eq d]; exact fDs_eq ds _
end
theorem fB_eq {α : Sort u} (b : B) (k : B → α) : fB b k = k b := by
  obtain ⟨t, d⟩ := b
  cases t <;> exact fD_eq _ _
theorem setK_eq {α : Type} {β : Sort u} : ∀ (l : List α) (i : Nat) (x : α) (k : List α → β), setK l i x k = k (l.set i x)
  | [], _, _, _ => rfl
  | _ :: _, 0, _, _ => rfl
  | a :: as, n + 1, x, k => setK_eq as n x _
/-! ### plain data -/
def plainAt : Nat → D → Bool
  | _, .non => true
  | _, .bl _ => true
  | _, .int _ => true
  | _, .str x => PyData.strOk x
  | n + 1, .tup ds => ds.all (plainAt n)
  | n + 1, .lst ds => ds.all (plainAt n)
  | _, _ => false
def all2 {α β : Type} (f : α → β → Bool) : List α → List β → Bool
  | [], [] => true
  | x :: xs, y :: ys => f x y && all2 f xs ys
  | _, _ => false
def b2i (b : Bool) : Int := if b then 1 else 0
def eqAt : Nat → D → D → Bool
  | _, .non, .non => true
  | _, .bl a, .bl b => a == b
  | _, .bl a, .int j => (if a then 1 else 0) == j
  | _, .int i, .bl b => i == (if b then 1 else 0)
  | _, .int i, .int j => i == j
  | _, .str x, .str y => x == y
  | n + 1, .tup xs, .tup ys => all2 (eqAt n) xs ys
  | n + 1, .lst xs, .lst ys => all2 (eqAt n) xs ys
  | _, _, _ => false
/-- the very same data -/
def sameAt : Nat → D → D → Bool
  | _, .non, .non => true
  | _, .bl a, .bl b => a == b
  | _, .int i, .int j => i == j
  | _, .str x, .str y => x == y
  | n + 1, .tup xs, .tup ys => all2 (sameAt n) xs ys
  | n + 1, .lst xs, .lst ys => all2 (sameAt n) xs ys
  | _, _, _ => false
mutual
def D.py : D → PyData
  | .non => .none
  | .bl b => .bool b
  | .int i => .int i
  | .str x => .str x
  | .tup ds => .tuple (pys ds)
  | .lst ds => .list (pys ds)
  | _ => .none
def pys : List D → List PyData
  | [] => []
  | d :: ds => d.py :: pys ds
end
/-- a bound of the written length; none where an int is too long to be written -/
def sumO : List (Option Nat) → Option Nat
  | [] => some 0
  | none :: _ => none
  | some a :: r => match sumO r with | some b => some (a + b) | none => none
def showAt : Nat → D → Option Nat
  | _, .non => some 4
  | _, .bl _ => some 5
  | _, .int i => if i.natAbs.log2 < 1920 then some 1921 else none
  | _, .str x => some (12 * x.length + 4)
  | n + 1, .tup ds => match sumO (ds.map (showAt n)) with | some k => some (k + 2 * ds.length + 4) | none => none
  | n + 1, .lst ds => match sumO (ds.map (showAt n)) with | some k => some (k + 2 * ds.length + 4) | none => none
  | _, _ => none
def DEEP : Nat := 24

/-! ### expressions -/
def eVal (d : D) : E := fun _ g => .ok (sh d) g
def eVar (i : Nat) : E := fun ρ g =>
  match ρ[i]? with
  | some (some ⟨.sh, d⟩) => .ok (sh d) g
  | some (some ⟨.ow, d⟩) => .ok (bw d) g
  | _ => .no
/-- a value that is kept: fresh ones are shared from then on -/
def kept (r : R B) (k : D → G → R B) : R B := r.bind fun b g => match b.t with | .bw => .no | _ => k b.d g
def eArgs : List E → Ro → G → R (List D)
  | [], _, g => .ok [] g
  | f :: fs, ρ, g => (f ρ g).bind fun b g1 => match b.t with
    | .bw => .no
    | _ => (eArgs fs ρ g1).bind fun ds g2 => .ok (b.d :: ds) g2
def eTup (fs : List E) : E := fun ρ g => (eArgs fs ρ g).bind fun ds g1 => .ok (sh (.tup ds)) g1
def eLst (fs : List E) : E := fun ρ g => (eArgs fs ρ g).bind fun ds g1 => .ok (ow (.lst ds)) g1
def eDk0 : E := fun _ g => .ok (ow (.dk [])) g
def eDt0 : E := fun _ g => .ok (ow (.dt [])) g
abbrev Op1 := D → Option B
abbrev Op2 := D → D → Option B
def eUn (o : Op1) (f : E) : E := fun ρ g => (f ρ g).bind fun x g1 => match o x.d with | some b => .ok b g1 | none => .no
def eBin (o : Op2) (f h : E) : E := fun ρ g => (f ρ g).bind fun x g1 => (h ρ g1).bind fun y g2 => match o x.d y.d with | some b => .ok b g2 | none => .no
def eChain (o o' : Op2) (f h k : E) : E := fun ρ g => (f ρ g).bind fun x g1 => (h ρ g1).bind fun y g2 => match o x.d y.d with
  | some ⟨.sh, .bl true⟩ => (k ρ g2).bind fun z g3 => match o' y.d z.d with | some b => .ok b g3 | none => .no
  | some ⟨.sh, .bl false⟩ => .ok (sh (.bl false)) g2
  | _ => .no
def eAnd (f h : E) : E := fun ρ g => (f ρ g).bind fun x g1 => match x with | ⟨.sh, .bl true⟩ => h ρ g1 | ⟨.sh, .bl false⟩ => .ok (sh (.bl false)) g1 | _ => .no
def eOr (f h : E) : E := fun ρ g => (f ρ g).bind fun x g1 => match x with | ⟨.sh, .bl true⟩ => .ok (sh (.bl true)) g1 | ⟨.sh, .bl false⟩ => h ρ g1 | _ => .no
def eNot (f : E) : E := fun ρ g => (f ρ g).bind fun x g1 => match x with | ⟨.sh, .bl b⟩ => .ok (sh (.bl (!b))) g1 | _ => .no
def eIf (c f h : E) : E := fun ρ g => (c ρ g).bind fun x g1 => match x with | ⟨.sh, .bl true⟩ => f ρ g1 | ⟨.sh, .bl false⟩ => h ρ g1 | _ => .no
def eCall0 (m : Fn) (fs : List E) : E := fun ρ g => (eArgs fs ρ g).bind m
def eCall (m : Fn) (fs : List E) : E := fun ρ g => (eArgs fs ρ g).bind fun ds g1 => fDs ds fun es => m es g1
theorem eCall_0 (m : Fn) (fs : List E) : eCall m fs = eCall0 m fs := by
  funext ρ g
  unfold eCall eCall0
  simp only [fDs_eq]

/-! ### operators -/
def isC : D → Bool
  | .tup _ => true | .lst _ => true | .dk _ => true | .dt _ => true | _ => false
def oAdd : Op2
  | .int i, .int j => some (sh (.int (i + j)))
  | .lst xs, .lst ys => if xs.length + ys.length ≤ LIM then some (ow (.lst (xs ++ ys))) else none
  | .tup xs, .tup ys => if xs.length + ys.length ≤ LIM then some (sh (.tup (xs ++ ys))) else none
  | _, _ => none
def oSub : Op2
  | .int i, .int j => some (sh (.int (i - j)))
  | _, _ => none
def mulOk (i j : Int) : Bool := decide (i.natAbs.log2 + j.natAbs.log2 < 1000000)
def oMul : Op2
  | .int i, .int j => if mulOk i j then some (sh (.int (i * j))) else none
  | .lst xs, .int k => if xs.length * k.toNat ≤ LIM ∧ k ≤ LIM ∧ -LIM ≤ k then some (ow (.lst (List.replicate k.toNat xs).flatten)) else none
  | .tup xs, .int k => if xs ≠ [] ∧ 2 ≤ k ∧ k ≤ 1000 ∧ xs.length ≤ 1000 then some (sh (.tup (List.replicate k.toNat xs).flatten)) else none
  | _, _ => none
def divOk (j : Int) : Bool := decide (j ≠ 0 ∧ j.natAbs.log2 < 9000)
def oDiv : Op2
  | .int i, .int j => if divOk j then some (sh (.int (i.fdiv j))) else none
  | _, _ => none
def oMod : Op2
  | .int i, .int j => if j ≠ 0 then some (sh (.int (i.fmod j))) else none
  | _, _ => none
def oPow : Op2
  | .int i, .int j => if 0 ≤ j ∧ j ≤ 1000000 ∧ i.natAbs < 2 ^ 64 then some (sh (.int (i ^ j.toNat))) else none
  | _, _ => none
def oShl : Op2
  | .int i, .int j => if 0 ≤ j ∧ j ≤ 1000000 ∧ i.natAbs < 2 ^ 64 then some (sh (.int (i * 2 ^ j.toNat))) else none
  | _, _ => none
def oLt : Op2
  | .int i, .int j => some (sh (.bl (decide (i < j))))
  | _, _ => none
def oLe : Op2
  | .int i, .int j => some (sh (.bl (decide (i ≤ j))))
  | _, _ => none
def oGt : Op2
  | .int i, .int j => some (sh (.bl (decide (j < i))))
  | _, _ => none
def oGe : Op2
  | .int i, .int j => some (sh (.bl (decide (j ≤ i))))
  | _, _ => none
def oEq : Op2 := fun x y => if plainAt DEEP x && plainAt DEEP y then some (sh (.bl (eqAt DEEP x y))) else none
def oNe : Op2 := fun x y => if plainAt DEEP x && plainAt DEEP y then some (sh (.bl (!eqAt DEEP x y))) else none
def oIsN : Op1
  | .non => some (sh (.bl true))
  | _ => some (sh (.bl false))
def oNotN : Op1
  | .non => some (sh (.bl false))
  | _ => some (sh (.bl true))
def oIsB : Op2
  | x, .non => oIsN x
  | _, _ => none
def oNotB : Op2
  | x, .non => oNotN x
  | _, _ => none
def oNeg : Op1
  | .int i => some (sh (.int (-i)))
  | _ => none
def ints? : List D → Option (List Int)
  | [] => some []
  | .int i :: r => match ints? r with | some is => some (i :: is) | none => none
  | _ :: _ => none
/-- a key: an int, or a tuple of ints -/
def lookI {α : Type} (k : Int) : List (Int × α) → Option α
  | [] => none
  | (a, v) :: r => if a = k then some v else lookI k r
def lookT {α : Type} (k : List Int) : List (List Int × α) → Option α
  | [] => none
  | (a, v) :: r => if a = k then some v else lookT k r
def putI {α : Type} (k : Int) (v : α) (kvs : List (Int × α)) : List (Int × α) :=
  if kvs.any (fun p => decide (p.1 = k)) then kvs.map (fun p => if p.1 = k then (p.1, v) else p) else kvs ++ [(k, v)]
def putT {α : Type} (k : List Int) (v : α) (kvs : List (List Int × α)) : List (List Int × α) :=
  if kvs.any (fun p => decide (p.1 = k)) then kvs.map (fun p => if p.1 = k then (p.1, v) else p) else kvs ++ [(k, v)]
def isIn (x y : D) : Option Bool := match y with
  | .lst ds => if plainAt DEEP x && plainAt DEEP y then some (ds.any fun z => eqAt DEEP z x) else none
  | .tup ds => if plainAt DEEP x && plainAt DEEP y then some (ds.any fun z => eqAt DEEP z x) else none
  | .dk kvs => match x with | .int i => some (lookI i kvs).isSome | _ => none
  | .dt kvs => match x with | .tup ks => (match ints? ks with | some is => some (lookT is kvs).isSome | none => none) | _ => none
  | _ => none
def oIn : Op2 := fun x y => match isIn x y with | some b => some (sh (.bl b)) | none => none
def oNotIn : Op2 := fun x y => match isIn x y with | some b => some (sh (.bl (!b))) | none => none
def ixN' (n : Nat) (i : Int) : Option Nat := if 0 ≤ i then (if i < n then some i.toNat else none) else if -(n : Int) ≤ i then some (i + n).toNat else none
def atD (ds : List D) (i : Int) : Option D := match ixN' ds.length i with | some j => ds[j]? | none => none
def oIx : Op2
  | .lst ds, .int i => match atD ds i with | some d => some (sh d) | none => none
  | .tup ds, .int i => match atD ds i with | some d => some (sh d) | none => none
  | .dk kvs, .int i => match lookI i kvs with | some d => some (sh d) | none => none
  | .dt kvs, .tup ks => match ints? ks with | some is => (match lookT is kvs with | some d => some (sh d) | none => none) | none => none
  | _, _ => none
def oLen : Op1
  | .lst ds => some (sh (.int ds.length))
  | .tup ds => some (sh (.int ds.length))
  | .dk kvs => some (sh (.int kvs.length))
  | .dt kvs => some (sh (.int kvs.length))
  | _ => none
def oAbs : Op1
  | .int i => some (sh (.int (if i < 0 then -i else i)))
  | _ => none
def oInt : Op1
  | .int i => some (sh (.int i))
  | .bl b => some (sh (.int (if b then 1 else 0)))
  | _ => none
def oTuple : Op1
  | .lst ds => some (sh (.tup ds))
  | .tup ds => some (sh (.tup ds))
  | _ => none
def oList : Op1
  | .lst ds => some (ow (.lst ds))
  | .tup ds => some (ow (.lst ds))
  | _ => none
def maxI : Int → List Int → Int
  | m, [] => m
  | m, x :: r => maxI (if x > m then x else m) r
def minI : Int → List Int → Int
  | m, [] => m
  | m, x :: r => minI (if x < m then x else m) r
def oMaxL : Op1
  | .lst ds => match ints? ds with | some (m :: r) => some (sh (.int (maxI m r))) | _ => none
  | _ => none
def oMinL : Op1
  | .lst ds => match ints? ds with | some (m :: r) => some (sh (.int (minI m r))) | _ => none
  | _ => none
def oSum : Op1
  | .lst ds => match ints? ds with | some is => some (sh (.int is.sum)) | _ => none
  | _ => none
def oMax2 : Op2
  | .int i, .int j => some (sh (.int (if j > i then j else i)))
  | _, _ => none
def oMin2 : Op2
  | .int i, .int j => some (sh (.int (if j < i then j else i)))
  | _, _ => none
def oGcd : Op2
  | .int a, .int b => some (sh (.int ((Nat.gcd a.natAbs b.natAbs : Nat) : Int)))
  | _, _ => none
inductive Ty where
  | int | bool | tuple | list | str
def isTy : Ty → D → Option Bool
  | .int, .int _ => some true
  | .int, .bl _ => some true
  | .bool, .bl _ => some true
  | .tuple, .tup _ => some true
  | .list, .lst _ => some true
  | .str, .str _ => some true
  | _, .non => some false
  | _, .bl _ => some false
  | _, .int _ => some false
  | _, .str _ => some false
  | _, .tup _ => some false
  | _, .lst _ => some false
  | _, _ => none
/-- isinstance(e, C), e a caught exception; cs: C and the classes beneath it -/
def oIsX (cs : List Nat) : Op1
  | .exc c _ => some (sh (.bl (cs.contains c)))
  | _ => none
def oIs (t : Ty) : Op1 := fun d => match isTy t d with | some b => some (sh (.bl b)) | none => none
/-- the index part of a slice, as it falls into 0 .. n -/
def cutIx (n : Nat) (dflt : Nat) : Option Int → Nat
  | none => dflt
  | some i => if i < 0 then (i + (n : Int)).toNat else min i.toNat n
def cutD (ds : List D) (lo hi : Option Int) : List D := (ds.drop (cutIx ds.length 0 lo)).take (cutIx ds.length ds.length hi - cutIx ds.length 0 lo)
def ePart (f : Option E) (ρ : Ro) (g : G) : R (Option Int) := match f with
  | none => .ok none g
  | some f => (f ρ g).bind fun b g1 => match b.d with | .int i => .ok (some i) g1 | _ => .no
def eSlice (f : E) (lo hi : Option E) : E := fun ρ g => (f ρ g).bind fun x g1 => (ePart lo ρ g1).bind fun a g2 => (ePart hi ρ g2).bind fun b g3 => match x.d with
  | .lst ds => .ok (ow (.lst (cutD ds a b))) g3
  | .tup ds => .ok (sh (.tup (cutD ds a b))) g3
  | _ => .no
/-- x[::-1] -/
def oRevS : Op1
  | .lst ds => some (ow (.lst ds.reverse))
  | .tup ds => some (sh (.tup ds.reverse))
  | _ => none
/-- repr(x) == repr(y) -/
def reprSame (x y : D) : Bool := sameAt DEEP x y || decide (x.py.shown = y.py.shown)
def canShow (x : D) : Bool := plainAt DEEP x && (match showAt DEEP x with | some n => decide (n ≤ 16000000) | none => false)
def eRepr (f h : E) : E := fun ρ g => (f ρ g).bind fun x g1 => if canShow x.d then (h ρ g1).bind fun y g2 => if canShow y.d then .ok (sh (.bl (reprSame x.d y.d))) g2 else .no else .no

/-! ### what is walked -/
def iSeq (f : E) : It := fun ρ g => (f ρ g).bind fun b g1 => match b with
  | ⟨.bw, _⟩ => .no
  | ⟨_, .lst ds⟩ => .ok ds g1
  | ⟨_, .tup ds⟩ => .ok ds g1
  | _ => .no
/-- the same, of a list that is borrowed (in comprehensions) -/
def iSeqB (f : E) : It := fun ρ g => (f ρ g).bind fun b g1 => match b.d with
  | .lst ds => .ok ds g1
  | .tup ds => .ok ds g1
  | _ => .no
def rangeD (lo : Int) : Nat → List D
  | 0 => []
  | n + 1 => .int lo :: rangeD (lo + 1) n
def smallI (i : Int) : Bool := decide (-(2 ^ 62) ≤ i ∧ i < 2 ^ 62)
def iRange1 (f : E) : It := fun ρ g => (f ρ g).bind fun b g1 => match b.d with
  | .int n => if smallI n then .ok (rangeD 0 n.toNat) g1 else .no
  | _ => .no
def iRange2 (f h : E) : It := fun ρ g => (f ρ g).bind fun b g1 => (h ρ g1).bind fun c g2 => match b.d, c.d with
  | .int a, .int n => if smallI a && smallI n then .ok (rangeD a (n - a).toNat) g2 else .no
  | _, _ => .no
def enumD (k : Int) : List D → List D
  | [] => []
  | d :: ds => .tup [.int k, d] :: enumD (k + 1) ds
def zipD : List D → List D → List D
  | x :: xs, y :: ys => .tup [x, y] :: zipD xs ys
  | _, _ => []
def iEnum (s : It) : It := fun ρ g => (s ρ g).bind fun ds g1 => .ok (enumD 0 ds) g1
def iZip (s t : It) : It := fun ρ g => (s ρ g).bind fun xs g1 => (t ρ g1).bind fun ys g2 => .ok (zipD xs ys) g2
/-- zip of two lists, of two tuples -/
def iZip2 (f h : E) : It := fun ρ g => (eArgs [f, h] ρ g).bind fun ds g1 => match ds with
  | [.lst xs, .lst ys] => .ok (zipD xs ys) g1
  | [.tup xs, .tup ys] => .ok (zipD xs ys) g1
  | _ => .no
/-- zip(reversed(x), reversed(y)), tuples -/
def iZipR (f h : E) : It := fun ρ g => (f ρ g).bind fun x g1 => match x with
  | ⟨.sh, .tup xs⟩ => (h ρ g1).bind fun y g2 => (match y with
    | ⟨.sh, .tup ys⟩ => if xs.length = ys.length then .ok (zipD xs.reverse ys.reverse) g2 else .no
    | _ => .no)
  | _ => .no
def iRev (s : It) : It := fun ρ g => (s ρ g).bind fun xs g1 => .ok xs.reverse g1

/-! ### targets -/
inductive Tg where
  | v (i : Nat) | two (a b : Tg) | three (a b c : Tg) | four (a b c d : Tg) | five (a b c d e : Tg)
def Tg.put : Tg → D → Ro → Option Ro
  | .v i, d, ρ => fD d fun e => setK ρ i (some (sh e)) fun ρ1 => some ρ1
  | .two a b, .tup [x, y], ρ => match a.put x ρ with | some ρ1 => b.put y ρ1 | none => none
  | .three a b c, .tup [x, y, z], ρ => match a.put x ρ with | some ρ1 => (match b.put y ρ1 with | some ρ2 => c.put z ρ2 | none => none) | none => none
  | .four a b c d, .tup [x, y, z, u], ρ => match a.put x ρ with | some ρ1 => (match b.put y ρ1 with | some ρ2 => (match c.put z ρ2 with | some ρ3 => d.put u ρ3 | none => none) | none => none) | none => none
  | .five a b c d e, .tup [x, y, z, u, t], ρ => match a.put x ρ with | some ρ1 => (match b.put y ρ1 with | some ρ2 => (match c.put z ρ2 with | some ρ3 => (match d.put u ρ3 with | some ρ4 => e.put t ρ4 | none => none) | none => none) | none => none) | none => none
  | _, _, _ => none

theorem put_v (i : Nat) (d : D) (ρ : Ro) : (Tg.v i).put d ρ = some (ρ.set i (some (sh d))) := by
  rw [Tg.put, fD_eq, setK_eq]
/-! ### comprehensions -/
def wipeR (ρ : Ro) : List Nat → Ro
  | [] => ρ
  | i :: is => (wipeR ρ is).set i none
def compL (t : Tg) (c : Option E) (f : E) (ρ0 : Ro) : List D → List D → G → R (List D)
  | [], acc, g => .ok acc g
  | d :: ds, acc, g => match t.put d ρ0 with
    | none => .no
    | some ρ => match (match c with | none => R.ok true g | some c => (c ρ g).bind fun b g1 => match b with | ⟨.sh, .bl k⟩ => .ok k g1 | _ => .no) with
      | .ok true g1 => (match f ρ g1 with
        | .ok ⟨.bw, _⟩ _ => .no
        | .ok b g2 => compL t c f ρ0 ds (acc ++ [b.d]) g2
        | _ => .no)
      | .ok false g1 => compL t c f ρ0 ds acc g1
      | _ => .no
/-- the same, the list from behind, its parts made plain -/
def compR (t : Tg) (c : Option E) (f : E) (ρ0 : Ro) : List D → List D → G → R (List D)
  | [], acc, g => .ok acc.reverse g
  | d :: ds, acc, g => match t.put d ρ0 with
    | none => .no
    | some ρ => match (match c with | none => R.ok true g | some c => (c ρ g).bind fun b g1 => match b with | ⟨.sh, .bl k⟩ => .ok k g1 | _ => .no) with
      | .ok true g1 => (match f ρ g1 with
        | .ok ⟨.bw, _⟩ _ => .no
        | .ok b g2 => fD b.d fun e => compR t c f ρ0 ds (e :: acc) g2
        | _ => .no)
      | .ok false g1 => compR t c f ρ0 ds acc g1
      | _ => .no
theorem compR_eq (t : Tg) (c : Option E) (f : E) (ρ0 : Ro) : ∀ (ds acc : List D) (g : G), compR t c f ρ0 ds acc g = compL t c f ρ0 ds acc.reverse g
  | [], acc, g => rfl
  | d :: ds, acc, g => by
    unfold compR compL
    have e : ∀ (x : D), (x :: acc).reverse = acc.reverse ++ [x] := fun x => List.reverse_cons ..
    cases t.put d ρ0 with
    | none => rfl
    | some ρ =>
      dsimp only
      split
      · split
        · rfl
        · rw [fD_eq, compR_eq, e]
        · rfl
      · exact compR_eq t c f ρ0 ds acc _
      · rfl
def eComp0 (own : List Nat) (it : It) (t : Tg) (c : Option E) (f : E) : E := fun ρ g => (it ρ g).bind fun ds g1 => if ds.length ≤ LIM then
    (compL t c f (wipeR ρ own) ds [] g1).bind fun out g2 => .ok (ow (.lst out)) g2
  else .no
def eComp (own : List Nat) (it : It) (t : Tg) (c : Option E) (f : E) : E := fun ρ g => (it ρ g).bind fun ds g1 => if ds.length ≤ LIM then
    (compR t c f (wipeR ρ own) ds [] g1).bind fun out g2 => .ok (ow (.lst out)) g2
  else .no
theorem eComp_0 (own : List Nat) (it : It) (t : Tg) (c : Option E) (f : E) : eComp own it t c f = eComp0 own it t c f := by
  funext ρ g
  unfold eComp eComp0
  simp only [compR_eq, List.reverse_nil]

/-! ### statements -/
def sSeq (a b : S) : S := fun ρ g => match a ρ g with | .nx ρ1 g1 => b ρ1 g1 | r => r
def sPass : S := fun ρ g => .nx ρ g
def sBreak : S := fun ρ g => .bk ρ g
def onR (r : R B) (ρ : Ro) (k : B → G → SR) : SR := match r with | .ok b g => k b g | .er x g => .er x ρ g | .no => .no
def sAsg0 (i : Nat) (f : E) : S := fun ρ g => onR (f ρ g) ρ fun b g1 => match b.t with | .bw => .no | _ => .nx (ρ.set i (some b)) g1
def sAsg (i : Nat) (f : E) : S := fun ρ g => onR (f ρ g) ρ fun b g1 => match b.t with | .bw => .no | _ => fB b fun b => setK ρ i (some b) fun ρ1 => .nx ρ1 g1
theorem sAsg_0 (i : Nat) (f : E) : sAsg i f = sAsg0 i f := by
  funext ρ g
  unfold sAsg sAsg0
  simp only [fB_eq, setK_eq]
def sPar0 (i j : Nat) (f h : E) : S := fun ρ g => onR (f ρ g) ρ fun b g1 => match b.t with | .bw => .no | _ => onR (h ρ g1) ρ fun c g2 => match c.t with | .bw => .no | _ => .nx ((ρ.set i (some b)).set j (some c)) g2
def sPar (i j : Nat) (f h : E) : S := fun ρ g => onR (f ρ g) ρ fun b g1 => match b.t with | .bw => .no | _ => onR (h ρ g1) ρ fun c g2 => match c.t with | .bw => .no | _ => fB b fun b => fB c fun c => setK ρ i (some b) fun ρ1 => setK ρ1 j (some c) fun ρ2 => .nx ρ2 g2
theorem sPar_0 (i j : Nat) (f h : E) : sPar i j f h = sPar0 i j f h := by
  funext ρ g
  unfold sPar sPar0
  simp only [fB_eq, setK_eq]
def sPar30 (i j k : Nat) (f h l : E) : S := fun ρ g => onR (f ρ g) ρ fun b g1 => match b.t with | .bw => .no | _ => onR (h ρ g1) ρ fun c g2 => match c.t with
  | .bw => .no
  | _ => onR (l ρ g2) ρ fun d g3 => match d.t with | .bw => .no | _ => .nx (((ρ.set i (some b)).set j (some c)).set k (some d)) g3
def sPar3 (i j k : Nat) (f h l : E) : S := fun ρ g => onR (f ρ g) ρ fun b g1 => match b.t with | .bw => .no | _ => onR (h ρ g1) ρ fun c g2 => match c.t with
  | .bw => .no
  | _ => onR (l ρ g2) ρ fun d g3 => match d.t with | .bw => .no | _ => fB b fun b => fB c fun c => fB d fun d => setK ρ i (some b) fun ρ1 => setK ρ1 j (some c) fun ρ2 => setK ρ2 k (some d) fun ρ3 => .nx ρ3 g3
theorem sPar3_0 (i j k : Nat) (f h l : E) : sPar3 i j k f h l = sPar30 i j k f h l := by
  funext ρ g
  unfold sPar3 sPar30
  simp only [fB_eq, setK_eq]
def sUnp (t : Tg) (f : E) : S := fun ρ g => onR (f ρ g) ρ fun b g1 => match b.t with | .bw => .no | _ => match t.put b.d ρ with | some ρ1 => .nx ρ1 g1 | none => .no
def sExpr (f : E) : S := fun ρ g => onR (f ρ g) ρ fun _ g1 => .nx ρ g1
def sRet (f : E) : S := fun ρ g => onR (f ρ g) ρ fun b g1 => match b.t with | .bw => .no | _ => .rt b g1
def sRetV (i : Nat) : S := fun ρ g => match ρ[i]? with | some (some b) => .rt b g | _ => .no
def sIf (c : E) (a b : S) : S := fun ρ g => onR (c ρ g) ρ fun x g1 => match x with | ⟨.sh, .bl true⟩ => a ρ g1 | ⟨.sh, .bl false⟩ => b ρ g1 | _ => .no
def forL (t : Tg) (body : S) : List D → S
  | [], ρ, g => .nx ρ g
  | d :: ds, ρ, g => match t.put d ρ with
    | none => .no
    | some ρ1 => match body ρ1 g with
      | .nx ρ2 g2 => forL t body ds ρ2 g2
      | .ct ρ2 g2 => forL t body ds ρ2 g2
      | .bk ρ2 g2 => .nx ρ2 g2
      | r => r
def sFor (it : It) (t : Tg) (body : S) : S := fun ρ g => match it ρ g with
  | .ok ds g1 => forL t body ds ρ g1
  | .er x g1 => .er x ρ g1
  | .no => .no
def whileF (c : E) (body : S) : Nat → S
  | 0, _, _ => .no
  | n + 1, ρ, g => onR (c ρ g) ρ fun x g1 => match x with
    | ⟨.sh, .bl true⟩ => (match body ρ g1 with
      | .nx ρ2 g2 => whileF c body n ρ2 g2
      | .ct ρ2 g2 => whileF c body n ρ2 g2
      | .bk ρ2 g2 => .nx ρ2 g2
      | r => r)
    | ⟨.sh, .bl false⟩ => .nx ρ g1
    | _ => .no
def FUEL : Nat := 1000000
def sWhile (c : E) (body : S) : S := whileF c body FUEL
/-- from here on the variable's own list or dict is shared -/
def sFreeze (i : Nat) : S := fun ρ g => match ρ[i]? with | some (some b) => .nx (ρ.set i (some (sh b.d))) g | _ => .no
/-- a change of an own list by a value -/
def sMutL0 (i : Nat) (o : List D → D → Option (List D)) (f : E) : S := fun ρ g => match ρ[i]? with
  | some (some ⟨.ow, .lst ds⟩) => onR (f ρ g) ρ fun b g1 => match b.t with
    | .bw => .no
    | _ => match o ds b.d with | some ds1 => .nx (ρ.set i (some (ow (.lst ds1)))) g1 | none => .no
  | _ => .no
def sMutL (i : Nat) (o : List D → D → Option (List D)) (f : E) : S := fun ρ g => match ρ[i]? with
  | some (some ⟨.ow, .lst ds⟩) => onR (f ρ g) ρ fun b g1 => match b.t with
    | .bw => .no
    | _ => match o ds b.d with | some ds1 => fDs ds1 fun ds1 => setK ρ i (some (ow (.lst ds1))) fun ρ1 => .nx ρ1 g1 | none => .no
  | _ => .no
theorem sMutL_0 (i : Nat) (o : List D → D → Option (List D)) (f : E) : sMutL i o f = sMutL0 i o f := by
  funext ρ g
  unfold sMutL sMutL0
  simp only [fDs_eq, setK_eq]
def mAppend : List D → D → Option (List D) := fun xs y => if xs.length < LIM then some (xs ++ [y]) else none
def mExtend : List D → D → Option (List D) := fun xs y => match y with
  | .lst ys => if xs.length + ys.length ≤ LIM then some (xs ++ ys) else none
  | _ => none
def sReverse (i : Nat) : S := fun ρ g => match ρ[i]? with
  | some (some ⟨.ow, .lst ds⟩) => .nx (ρ.set i (some (ow (.lst ds.reverse)))) g
  | _ => .no
/-- x.insert(e, f) -/
def sInsert (i : Nat) (e f : E) : S := fun ρ g => match ρ[i]? with
  | some (some ⟨.ow, .lst xs⟩) => onR (e ρ g) ρ fun k g1 => onR (f ρ g1) ρ fun b g2 => match b.t with
    | .bw => .no
    | _ => match k.d with
      | .int n => if 0 ≤ n ∧ n ≤ LIM ∧ xs.length < LIM then .nx (ρ.set i (some (ow (.lst (xs.take n.toNat ++ [b.d] ++ xs.drop n.toNat))))) g2 else .no
      | _ => .no
  | _ => .no
def mSetIx : D → D → D → Option D
  | .lst xs, .int i, v => match ixN' xs.length i with | some j => some (.lst (xs.set j v)) | none => none
  | .dk kvs, .int i, v => if kvs.length < LIM then some (.dk (putI i v kvs)) else none
  | .dt kvs, .tup ks, v => match ints? ks with | some is => if kvs.length < LIM then some (.dt (putT is v kvs)) else none | none => none
  | _, _, _ => none
/-- x[e] = f -/
def sSetIx0 (i : Nat) (e f : E) : S := fun ρ g => onR (f ρ g) ρ fun b g1 => match b.t with
  | .bw => .no
  | _ => match ρ[i]? with
    | some (some ⟨.ow, d⟩) => onR (e ρ g1) ρ fun k g2 => (match mSetIx d k.d b.d with | some d1 => .nx (ρ.set i (some (ow d1))) g2 | none => .no)
    | _ => .no
def setIxK (ρ : Ro) (i : Nat) (d k v : D) (g : G) : SR := match d, k with
  | .lst xs, .int j => (match ixN' xs.length j with | some n => setK xs n v fun ys => setK ρ i (some (ow (.lst ys))) fun ρ1 => .nx ρ1 g | none => .no)
  | _, _ => (match mSetIx d k v with | some d1 => .nx (ρ.set i (some (ow d1))) g | none => .no)
theorem setIxK_eq (ρ : Ro) (i : Nat) (d k v : D) (g : G) : setIxK ρ i d k v g = match mSetIx d k v with | some d1 => .nx (ρ.set i (some (ow d1))) g | none => .no := by
  unfold setIxK
  split
  · rename_i xs j
    simp only [mSetIx, setK_eq]
    cases ixN' xs.length j <;> rfl
  · rfl
def sSetIx (i : Nat) (e f : E) : S := fun ρ g => onR (f ρ g) ρ fun b g1 => match b.t with
  | .bw => .no
  | _ => match ρ[i]? with
    | some (some ⟨.ow, d⟩) => onR (e ρ g1) ρ fun k g2 => fD b.d fun bd => setIxK ρ i d k.d bd g2
    | _ => .no
theorem sSetIx_0 (i : Nat) (e f : E) : sSetIx i e f = sSetIx0 i e f := by
  funext ρ g
  unfold sSetIx sSetIx0
  simp only [fD_eq, setIxK_eq]
def sRaise (x : List D → Ex) (fs : List E) : S := fun ρ g => match eArgs fs ρ g with
  | .ok ds g1 => .er (x ds) ρ g1
  | .er x g1 => .er x ρ g1
  | .no => .no
/-- except clauses: the classes that they name, the slot of the name, the suite -/
structure Hd where
  cs : List Nat
  slot : Option Nat
  s : S
/-- data that no exception and no function is in -/
def pureD : D → Bool
  | .st => true
  | .dk kvs => kvs.all fun p => plainAt DEEP p.2
  | .dt kvs => kvs.all fun p => plainAt DEEP p.2
  | d => plainAt DEEP d
def pureO : Option B → Bool
  | none => true
  | some ⟨.sh, .fn _⟩ => true
  | some b => pureD b.d
def handle : List Hd → Ex → S
  | [], x, ρ, g => .er x ρ g
  | h :: hs, x, ρ, g => if h.cs.contains x.c then
      (match h.slot with
      | none => (match h.s ρ g with | .er _ _ _ => .no | r => r)
      | some i => match h.s (ρ.set i (some (sh (.exc x.c x.fs)))) g with
        | .nx ρ1 g1 => if (ρ1.set i none).all pureO then .nx (ρ1.set i none) g1 else .no
        | .rt b g1 => if pureD b.d then .rt b g1 else .no
        | _ => .no)
    else handle hs x ρ g
def sTry (body : S) (hs : List Hd) : S := fun ρ g => match body ρ g with
  | .er x ρ1 g1 => handle hs x ρ1 g1
  | r => r
def eField (n : Str) (f : E) : E := fun ρ g => (f ρ g).bind fun b g1 => match b.d with
  | .exc _ fs => (match fs.lookup n with | some d => .ok (sh d) g1 | none => .no)
  | _ => .no

/-! ### a def: the parameters first, then the other locals -/
def ro0 (n : Nat) (ds : List D) : Ro := ds.map (fun d => some (sh d)) ++ List.replicate (n - ds.length) none
def ends (r : SR) : R B := match r with
  | .nx _ g1 => .ok (sh .non) g1
  | .rt b g1 => .ok b g1
  | .er x _ g1 => .er x g1
  | _ => .no
def fnOf (np n : Nat) (body : S) : Fn := fun ds g => if ds.length = np then ends (body (ro0 n ds) g) else .no
end Sx

set_option Elab.async false
set_option linter.all false
set_option maxRecDepth 100000
/-! Sx2: how data lies in the hand layer's heap; the judgements. -/
namespace Sx
open PySem PySem.Spec PyProof.Rows L2

structure Cs where
  fns : Nat → Option Addr
  cls : Nat → Option Addr
  st : Option (Addr × Addr × Addr)
  T : List (Addr × Str)
  codes : List (Addr × Str)
  exa : Option (Addr × Option Addr × Nat)
  ent : Option (Hp × Hp)

mutual
inductive Rep (C : Cs) (F : Hp) : V → D → Prop
  | non : Rep C F .non .non
  | bl (b : Bool) : Rep C F (.bl b) (.bl b)
  | int (i : Int) : Rep C F (.int i) (.int i)
  | str (x : Str) : Rep C F (.str x) (.str x)
  | tup {a : Addr} {xs : List V} {ds : List D} : F a = some (.tup xs) → xs.length ≤ sizeLine → Reps C F xs ds → Rep C F (.ref a) (.tup ds)
  | lst {a : Addr} {xs : List V} {ds : List D} : F a = some (.lst xs) → xs.length ≤ sizeLine → Reps C F xs ds → Rep C F (.ref a) (.lst ds)
  | dk {a : Addr} {xs : List (Key × V)} {ds : List (Int × D)} : F a = some (.dK xs) → RepK C F xs ds → Rep C F (.ref a) (.dk ds)
  | dt {a : Addr} {xs : List (List Key × V)} {ds : List (List Int × D)} : F a = some (.dT xs) → RepT C F xs ds → Rep C F (.ref a) (.dt ds)
  | fn {n : Nat} {a : Addr} : C.fns n = some a → Rep C F (.ref a) (.fn n)
  | st {a b c : Addr} : C.st = some (a, b, c) → Rep C F (.ref a) .st
  | exc {a d : Addr} {c : Nat} {xs : List (Str × V)} {fs : List (Str × D)} : C.exa = some (a, some d, c) → F d = some (.xd xs) → RepX C F xs fs → Rep C F (.ref a) (.exc c fs)
  | exc0 {a : Addr} {c : Nat} : C.exa = some (a, none, c) → Rep C F (.ref a) (.exc c [])
inductive Reps (C : Cs) (F : Hp) : List V → List D → Prop
  | nil : Reps C F [] []
  | cons {v : V} {vs : List V} {d : D} {ds : List D} : Rep C F v d → Reps C F vs ds → Reps C F (v :: vs) (d :: ds)
inductive RepK (C : Cs) (F : Hp) : List (Key × V) → List (Int × D) → Prop
  | nil : RepK C F [] []
  | cons {k : Int} {v : V} {vs : List (Key × V)} {d : D} {ds : List (Int × D)} : Rep C F v d → RepK C F vs ds → RepK C F ((.inl k, v) :: vs) ((k, d) :: ds)
inductive RepT (C : Cs) (F : Hp) : List (List Key × V) → List (List Int × D) → Prop
  | nil : RepT C F [] []
  | cons {k : List Int} {v : V} {vs : List (List Key × V)} {d : D} {ds : List (List Int × D)} : Rep C F v d → RepT C F vs ds → RepT C F ((k.map Sum.inl, v) :: vs) ((k, d) :: ds)
inductive RepX (C : Cs) (F : Hp) : List (Str × V) → List (Str × D) → Prop
  | nil : RepX C F [] []
  | cons {k : Str} {v : V} {vs : List (Str × V)} {d : D} {ds : List (Str × D)} : Rep C F v d → RepX C F vs ds → RepX C F ((k, v) :: vs) ((k, d) :: ds)
end

/-- the tables of code objects, the code objects -/
structure TabsC (C : Cs) (F H : Hp) : Prop where
  tabs : LamX.Tabs C.T H
  codes : ∀ p ∈ C.codes, H p.1 = some (LamX.CodeO p.1 p.2)
  notbl : ∀ a ps, F a ≠ some (.tbl ps)
/-- F grows -/
def Le (F F' : Hp) : Prop := ∀ a o, F a = some o → F' a = some o
theorem Le.refl (F : Hp) : Le F F := fun _ _ h => h
theorem Le.trans {F F1 F2 : Hp} (a : Le F F1) (b : Le F1 F2) : Le F F2 := fun c o h => b c o (a c o h)
mutual
theorem Rep.le {C : Cs} {F F' : Hp} (l : Le F F') : ∀ {v : V} {d : D}, Rep C F v d → Rep C F' v d
  | _, _, .non => .non
  | _, _, .bl b => .bl b
  | _, _, .int b => .int b
  | _, _, .str b => .str b
  | _, _, .tup h z r => .tup (l _ _ h) z (Reps.le l r)
  | _, _, .lst h z r => .lst (l _ _ h) z (Reps.le l r)
  | _, _, .dk h r => .dk (l _ _ h) (RepK.le l r)
  | _, _, .dt h r => .dt (l _ _ h) (RepT.le l r)
  | _, _, .fn h => .fn h
  | _, _, .st h => .st h
  | _, _, .exc h h2 r => .exc h (l _ _ h2) (RepX.le l r)
  | _, _, .exc0 h => .exc0 h
theorem Reps.le {C : Cs} {F F' : Hp} (l : Le F F') : ∀ {v : List V} {d : List D}, Reps C F v d → Reps C F' v d
  | _, _, .nil => .nil
  | _, _, .cons h r => .cons (Rep.le l h) (Reps.le l r)
theorem RepK.le {C : Cs} {F F' : Hp} (l : Le F F') : ∀ {v : List (Key × V)} {d : List (Int × D)}, RepK C F v d → RepK C F' v d
  | _, _, .nil => .nil
  | _, _, .cons h r => .cons (Rep.le l h) (RepK.le l r)
theorem RepT.le {C : Cs} {F F' : Hp} (l : Le F F') : ∀ {v : List (List Key × V)} {d : List (List Int × D)}, RepT C F v d → RepT C F' v d
  | _, _, .nil => .nil
  | _, _, .cons h r => .cons (Rep.le l h) (RepT.le l r)
theorem RepX.le {C : Cs} {F F' : Hp} (l : Le F F') : ∀ {v : List (Str × V)} {d : List (Str × D)}, RepX C F v d → RepX C F' v d
  | _, _, .nil => .nil
  | _, _, .cons h r => .cons (Rep.le l h) (RepX.le l r)
end
theorem Reps.length {C : Cs} {F : Hp} : ∀ {v : List V} {d : List D}, Reps C F v d → v.length = d.length
  | _, _, .nil => rfl
  | _, _, .cons _ r => by simp [Reps.length r]
theorem Reps.append {C : Cs} {F : Hp} : ∀ {v w : List V} {d e : List D}, Reps C F v d → Reps C F w e → Reps C F (v ++ w) (d ++ e)
  | _, _, _, _, .nil, s => s
  | _, _, _, _, .cons h r, s => .cons h (Reps.append r s)
theorem Reps.get {C : Cs} {F : Hp} : ∀ {v : List V} {d : List D} {i : Nat} {x : D}, Reps C F v d → d[i]? = some x → ∃ u, v[i]? = some u ∧ Rep C F u x
  | _, _, _, _, .nil, e => by simp at e
  | _, _, 0, _, .cons r _, e => by simp at e; subst e; exact ⟨_, rfl, r⟩
  | _, _, i + 1, x, .cons _ t, e => by
    obtain ⟨u, h1, h2⟩ := Reps.get (i := i) (x := x) t (by simpa using e)
    exact ⟨u, by simpa using h1, h2⟩
theorem Reps.getV {C : Cs} {F : Hp} : ∀ {v : List V} {d : List D} {i : Nat} {u : V}, Reps C F v d → v[i]? = some u → ∃ x, d[i]? = some x ∧ Rep C F u x
  | _, _, _, _, .nil, e => by simp at e
  | _, _, 0, _, .cons r _, e => by simp at e; subst e; exact ⟨_, rfl, r⟩
  | _, _, i + 1, x, .cons _ t, e => by
    obtain ⟨u, h1, h2⟩ := Reps.getV (i := i) (u := x) t (by simpa using e)
    exact ⟨u, by simpa using h1, h2⟩
theorem Reps.set {C : Cs} {F : Hp} {u : V} {x : D} (r : Rep C F u x) : ∀ {v : List V} {d : List D} (i : Nat), Reps C F v d → Reps C F (v.set i u) (d.set i x)
  | _, _, _, .nil => .nil
  | _, _, 0, .cons _ t => .cons r t
  | _, _, i + 1, .cons q t => .cons q (Reps.set r i t)
theorem Reps.take {C : Cs} {F : Hp} : ∀ {v : List V} {d : List D} (n : Nat), Reps C F v d → Reps C F (v.take n) (d.take n)
  | _, _, 0, _ => .nil
  | _, _, _ + 1, .nil => .nil
  | _, _, n + 1, .cons r t => .cons r (Reps.take n t)
theorem Reps.drop {C : Cs} {F : Hp} : ∀ {v : List V} {d : List D} (n : Nat), Reps C F v d → Reps C F (v.drop n) (d.drop n)
  | _, _, 0, r => r
  | _, _, _ + 1, .nil => .nil
  | _, _, n + 1, .cons _ t => Reps.drop n t
theorem Reps.reverse {C : Cs} {F : Hp} : ∀ {v : List V} {d : List D}, Reps C F v d → Reps C F v.reverse d.reverse
  | _, _, .nil => .nil
  | _, _, .cons h r => by
    rw [List.reverse_cons, List.reverse_cons]
    exact Reps.append (Reps.reverse r) (.cons h .nil)
theorem Reps.snoc {C : Cs} {F : Hp} {v : List V} {d : List D} {u : V} {x : D} (r : Reps C F v d) (h : Rep C F u x) : Reps C F (v ++ [u]) (d ++ [x]) := r.append (.cons h .nil)

/-! ### the draw state -/
def InSt (C : Cs) (a : Addr) : Prop := match C.st with | none => False | some (x, y, z) => a = x ∨ a = y ∨ a = z
def StOk (C : Cs) (F : Hp) (g : G) (H : Hp) : Prop :=
  match C.st, g with
  | none, _ => True
  | some (x, y, z), some gs => H x = some (.dK [(.inr "cells", .ref y), (.inr "lefts", .ref z), (.inr "at", .int gs.pos)]) ∧ H y = some (.lst (gs.cells.map V.int)) ∧ H z = some (.lst (gs.lefts.map V.int)) ∧
      x ≠ y ∧ x ≠ z ∧ y ≠ z ∧ F x = none ∧ F y = none ∧ F z = none
  | some _, none => False

/-! ### from one moment to a later one -/
structure Stp (C : Cs) (F H F' H' : Hp) : Prop where
  ff : Le F F'
  le : Le F' H'
  keep : ∀ a o, H a = some o → ¬ InSt C a → (∀ ps, o ≠ .tbl ps) → H' a = some o
  there : ∀ a, H a ≠ none → H' a ≠ none
  priv : ∀ a, H a ≠ none → F a = none → F' a = none ∨ ∃ xs, F' a = some (.tup xs)
theorem Stp.refl {C : Cs} {F H : Hp} (l : Le F H) : Stp C F H F H := ⟨.refl F, l, fun _ _ h _ _ => h, fun _ h => h, fun _ _ h => .inl h⟩
theorem Stp.trans {C : Cs} {F H F1 H1 F2 H2 : Hp} (a : Stp C F H F1 H1) (b : Stp C F1 H1 F2 H2) : Stp C F H F2 H2 :=
  ⟨a.ff.trans b.ff, b.le, fun c o h n t => b.keep c o (a.keep c o h n t) n t, fun c h => b.there c (a.there c h), fun c h n => (a.priv c h n).elim (fun e => b.priv c (a.there c h) e) fun ⟨xs, e⟩ => .inr ⟨xs, b.ff _ _ e⟩⟩
/-- what is no tuple is not shared on the way -/
theorem Stp.un {C : Cs} {F H F' H' : Hp} (s : Stp C F H F' H') {a : Addr} {o : HO} (h0 : H a ≠ none) (f : F a = none) (h : H' a = some o) (no : ∀ xs, o ≠ .tup xs) : F' a = none := by
  rcases s.priv a h0 f with e | ⟨xs, e⟩
  · exact e
  · have := s.le _ _ e
    rw [h] at this
    exact absurd (Option.some.inj this) (no xs)
/-- a new shared object -/
theorem Stp.newSh {C : Cs} {F H : Hp} {p : Addr} {o : HO} (l : Le F H) (hp : H p = none) : Stp C F H (upd F p o) (upd H p o) := by
  have ne : ∀ a u, H a = some u → a ≠ p := fun a u h e => by subst e; rw [hp] at h; cases h
  refine ⟨fun a u h => by rw [upd_ne (ne a u (l a u h))]; exact h, fun a u h => ?_, fun a u h _ _ => by rw [upd_ne (ne a u h)]; exact h, fun a h => ?_, fun a h n => ?_⟩
  · by_cases e : a = p
    · subst e; rw [upd_same] at h ⊢; exact h
    · rw [upd_ne e] at h ⊢; exact l a u h
  · have : a ≠ p := fun e => by subst e; exact h hp
    rw [upd_ne this]; exact h
  · have : a ≠ p := fun e => by subst e; exact h hp
    rw [upd_ne this]; exact .inl n
/-- a new own object -/
theorem Stp.newOw {C : Cs} {F H : Hp} {p : Addr} {o : HO} (l : Le F H) (hp : H p = none) : Stp C F H F (upd H p o) := by
  have ne : ∀ a u, H a = some u → a ≠ p := fun a u h e => by subst e; rw [hp] at h; cases h
  refine ⟨.refl F, fun a u h => by rw [upd_ne (ne a u (l a u h))]; exact l a u h, fun a u h _ _ => by rw [upd_ne (ne a u h)]; exact h, fun a h => ?_, fun a _ n => .inl n⟩
  have : a ≠ p := fun e => by subst e; exact h hp
  rw [upd_ne this]; exact h
theorem Le.free {F H : Hp} {p : Addr} (l : Le F H) (hp : H p = none) : F p = none := by
  cases q : F p with
  | none => rfl
  | some o => rw [l p o q] at hp; cases hp
theorem Le.upd {F : Hp} {p : Addr} {o : HO} (hp : F p = none) : Le F (upd F p o) := fun a u h => by
  have : a ≠ p := fun e => by subst e; rw [hp] at h; cases h
  rw [upd_ne this]; exact h
theorem StOk.new {C : Cs} {F F' H : Hp} {g : G} {p : Addr} {o : HO} (s : StOk C F g H) (hp : H p = none) (hF : F' = F ∨ F' = upd F p o) : StOk C F' g (upd H p o) := by
  unfold StOk at *
  cases e : C.st with
  | none => trivial
  | some t =>
    obtain ⟨x, y, z⟩ := t
    rw [e] at s
    cases g with
    | none => exact s
    | some gs =>
      obtain ⟨h1, h2, h3, n1, n2, n3, f1, f2, f3⟩ := s
      have ne : ∀ a u, H a = some u → a ≠ p := fun a u h e => by subst e; rw [hp] at h; cases h
      have x1 := ne _ _ h1
      have x2 := ne _ _ h2
      have x3 := ne _ _ h3
      refine ⟨by rw [upd_ne x1]; exact h1, by rw [upd_ne x2]; exact h2, by rw [upd_ne x3]; exact h3, n1, n2, n3, ?_, ?_, ?_⟩
      · rcases hF with rfl | rfl
        · exact f1
        · rw [upd_ne x1]; exact f1
      · rcases hF with rfl | rfl
        · exact f2
        · rw [upd_ne x2]; exact f2
      · rcases hF with rfl | rfl
        · exact f3
        · rw [upd_ne x3]; exact f3
theorem InSt.there {C : Cs} {F H : Hp} {g : G} {a : Addr} (s : StOk C F g H) (h : InSt C a) : H a ≠ none := by
  unfold StOk at s
  unfold InSt at h
  cases e : C.st with
  | none => rw [e] at h; exact h.elim
  | some t =>
    obtain ⟨x, y, z⟩ := t
    rw [e] at s h
    cases g with
    | none => exact s.elim
    | some gs =>
      obtain ⟨h1, h2, h3, _⟩ := s
      rcases h with rfl | rfl | rfl
      · rw [h1]; simp
      · rw [h2]; simp
      · rw [h3]; simp
theorem InSt.free {C : Cs} {F H : Hp} {g : G} {a : Addr} (s : StOk C F g H) (h : InSt C a) : F a = none := by
  unfold StOk at s
  unfold InSt at h
  cases e : C.st with
  | none => rw [e] at h; exact h.elim
  | some t =>
    obtain ⟨x, y, z⟩ := t
    rw [e] at s h
    cases g with
    | none => exact s.elim
    | some gs =>
      obtain ⟨h1, h2, h3, _, _, _, f1, f2, f3⟩ := s
      rcases h with rfl | rfl | rfl
      · exact f1
      · exact f2
      · exact f3

/-! ### own containers -/
inductive Top (C : Cs) (F H : Hp) (a : Addr) : D → Prop
  | lst {xs : List V} {ds : List D} : H a = some (.lst xs) → xs.length ≤ sizeLine → Reps C F xs ds → Top C F H a (.lst ds)
  | dk {xs : List (Key × V)} {ds : List (Int × D)} : H a = some (.dK xs) → RepK C F xs ds → Top C F H a (.dk ds)
  | dt {xs : List (List Key × V)} {ds : List (List Int × D)} : H a = some (.dT xs) → RepT C F xs ds → Top C F H a (.dt ds)
theorem Top.there {C : Cs} {F H : Hp} {a : Addr} {d : D} (t : Top C F H a d) : ∃ o, H a = some o ∧ ∀ ps, o ≠ .tbl ps := by
  cases t with
  | lst h _ _ => exact ⟨_, h, fun _ q => by cases q⟩
  | dk h _ => exact ⟨_, h, fun _ q => by cases q⟩
  | dt h _ => exact ⟨_, h, fun _ q => by cases q⟩
theorem Top.step {C : Cs} {F H F' H' : Hp} {a : Addr} {d : D} (t : Top C F H a d) (n : ¬ InSt C a) (s : Stp C F H F' H') : Top C F' H' a d := by
  cases t with
  | lst h z r => exact .lst (s.keep _ _ h n fun _ q => by cases q) z (r.le s.ff)
  | dk h r => exact .dk (s.keep _ _ h n fun _ q => by cases q) (r.le s.ff)
  | dt h r => exact .dt (s.keep _ _ h n fun _ q => by cases q) (r.le s.ff)
theorem Top.un {C : Cs} {F H : Hp} {a : Addr} {d : D} (t : Top C F H a d) : ∃ o, H a = some o ∧ ∀ xs, o ≠ .tup xs := by
  cases t with
  | lst h _ _ => exact ⟨_, h, fun _ q => by cases q⟩
  | dk h _ => exact ⟨_, h, fun _ q => by cases q⟩
  | dt h _ => exact ⟨_, h, fun _ q => by cases q⟩
/-- an own container at a -/
structure Own (C : Cs) (F H : Hp) (v : V) (a : Addr) (d : D) : Prop where
  v : v = .ref a
  fr : F a = none
  ns : ¬ InSt C a
  top : Top C F H a d
theorem Own.step {C : Cs} {F H F' H' : Hp} {a : Addr} {v : V} {d : D} (o : Own C F H v a d) (s : Stp C F H F' H') : Own C F' H' v a d :=
  ⟨o.v, (by obtain ⟨u, h, n⟩ := (o.top.step o.ns s).un; exact s.un (by obtain ⟨u, h, _⟩ := o.top.there; rw [h]; simp) o.fr h n), o.ns, o.top.step o.ns s⟩
/-- what an operand may be -/
def RO (C : Cs) (F H : Hp) (v : V) (d : D) : Prop := Rep C F v d ∨ ∃ a, Own C F H v a d
theorem RO.step {C : Cs} {F H F' H' : Hp} {v : V} {d : D} (r : RO C F H v d) (s : Stp C F H F' H') : RO C F' H' v d := by
  rcases r with r | ⟨a, o⟩
  · exact .inl (r.le s.ff)
  · exact .inr ⟨a, o.step s⟩
/-- what a variable may hold: H0 is the heap at the def's entry -/
def RS (C : Cs) (H0 F H : Hp) (v : V) (b : B) : Prop :=
  match b.t with
  | .sh => Rep C F v b.d
  | .ow => ∃ a, H0 a = none ∧ Own C F H v a b.d
  | .bw => False
/-- what an expression gives, begun at H -/
def RB (C : Cs) (H F' H' : Hp) (v : V) (b : B) : Prop :=
  match b.t with
  | .sh => Rep C F' v b.d
  | .ow => ∃ a, H a = none ∧ Own C F' H' v a b.d
  | .bw => ∃ a, Own C F' H' v a b.d
theorem RB.ro {C : Cs} {H F' H' : Hp} {v : V} {b : B} (r : RB C H F' H' v b) : RO C F' H' v b.d := by
  unfold RB at r
  cases e : b.t with
  | sh => rw [e] at r; exact .inl r
  | ow => rw [e] at r; obtain ⟨a, _, o⟩ := r; exact .inr ⟨a, o⟩
  | bw => rw [e] at r; obtain ⟨a, o⟩ := r; exact .inr ⟨a, o⟩

/-- the frame: ρ tells the slots σ; F0, H0 the def's entry -/
structure Rel (C : Cs) (F0 H0 F : Hp) (ρ : Ro) (g : G) (σ : L2.St) (H : Hp) : Prop where
  stp : Stp C F0 H0 F H
  st : StOk C F g H
  tabs : TabsC C F H
  len : ρ.length = σ.length
  slot : ∀ (i : Nat) (b : B), ρ[i]? = some (some b) → ∃ v, σ[i]? = some (some v) ∧ RS C H0 F H v b
  dis : ∀ (i j : Nat) (bi bj : B) (a : Addr), ρ[i]? = some (some bi) → ρ[j]? = some (some bj) → bi.t = .ow → bj.t = .ow → σ[i]? = some (some (.ref a)) → σ[j]? = some (some (.ref a)) → i = j
  ent : ∀ p, C.ent = some p → F0 = p.1 ∧ H0 = p.2
end Sx

set_option Elab.async false
set_option linter.all false
set_option maxRecDepth 100000
set_option maxHeartbeats 2000000
/-! Sx3: judgements of expressions. -/
namespace Sx
open PySem PySem.Spec PyProof.Rows L2

def onOk {α : Type} (r : R α) (K : α → G → Prop) (X : Ex → G → Prop) : Prop :=
  match r with
  | .ok a g => K a g
  | .er x g => X x g
  | .no => False
theorem onOk_bind {α β : Type} {r : R α} {f : α → G → R β} {K : β → G → Prop} {X : Ex → G → Prop} : onOk (r.bind f) K X = onOk r (fun a g => onOk (f a g) K X) X := by
  cases r <;> rfl
theorem onOk_mono {α : Type} {r : R α} {K K' : α → G → Prop} {X X' : Ex → G → Prop} (h : onOk r K X) (hk : ∀ a g, K a g → K' a g) (hx : ∀ x g, X x g → X' x g) : onOk r K' X' := by
  cases r with
  | ok a g => exact hk a g h
  | er x g => exact hx x g h
  | no => exact h

theorem TabsC.grow {C : Cs} {F H : Hp} {p : Addr} {o : HO} (h : TabsC C F H) (ho : ∀ ps, o ≠ .tbl ps) : TabsC C (upd F p o) H := ⟨h.1, h.2, fun a ps z => by
  by_cases e : a = p
  · subst e; rw [upd_same] at z; exact ho ps (Option.some.inj z)
  · rw [upd_ne e] at z; exact h.3 a ps z⟩
structure After (C : Cs) (F H : Hp) (g' : G) (F' H' : Hp) : Prop where
  stp : Stp C F H F' H'
  st : StOk C F' g' H'
  tabs : TabsC C F' H'
theorem After.trans {C : Cs} {F H F1 H1 F2 H2 : Hp} {g1 g2 : G} (a : After C F H g1 F1 H1) (b : After C F1 H1 g2 F2 H2) : After C F H g2 F2 H2 := ⟨a.stp.trans b.stp, b.st, b.tabs⟩
theorem After.none {C : Cs} {F H F1 H1 : Hp} {g1 : G} (a : After C F H g1 F1 H1) {p : Addr} (h : H1 p = none) : H p = none := by
  cases q : H p with
  | none => rfl
  | some o => exact absurd h (a.stp.there p (by rw [q]; simp))
theorem RB.early {C : Cs} {F H F1 H1 F2 H2 : Hp} {g1 : G} {v : V} {b : B} (a : After C F H g1 F1 H1) (r : RB C H1 F2 H2 v b) : RB C H F2 H2 v b := by
  unfold RB at *
  cases e : b.t with
  | sh => rw [e] at r; exact r
  | ow => rw [e] at r; obtain ⟨p, hp, o⟩ := r; exact ⟨p, a.none hp, o⟩
  | bw => rw [e] at r; exact r
theorem RB.freeze {C : Cs} {F H F' H' : Hp} {g : G} {v : V} {b : B} (a : After C F H g F' H') (r : RB C H F' H' v b) (nb : b.t ≠ .bw) : ∃ F'', After C F H g F'' H' ∧ Rep C F'' v b.d ∧ Le F' F'' := by
  unfold RB at r
  cases e : b.t with
  | sh => rw [e] at r; exact ⟨F', a, r, .refl _⟩
  | bw => exact absurd e nb
  | ow =>
    rw [e] at r
    obtain ⟨p, hp, rfl, fr, ns, top⟩ := r
    have key : ∀ o, H' p = some o → (∀ ps, o ≠ .tbl ps) → (∀ F'', F'' = upd F' p o → After C F H g F'' H' ∧ Le F' F'') := fun o ho ht F'' eF => by
      subst eF
      have l : Le F' (upd F' p o) := Le.upd fr
      refine ⟨⟨⟨a.stp.ff.trans l, fun c u h => ?_, a.stp.keep, a.stp.there, fun c h n => ?_⟩, ?_, a.tabs.grow ht⟩, l⟩
      · by_cases ec : c = p
        · subst ec; rw [upd_same] at h; cases h; exact ho
        · rw [upd_ne ec] at h; exact a.stp.le c u h
      · have : c ≠ p := fun z => by subst z; exact h hp
        rw [upd_ne this]; exact a.stp.priv c h n
      · have s := a.st
        unfold StOk at s ⊢
        unfold InSt at ns
        cases eC : C.st with
        | none => trivial
        | some t =>
          obtain ⟨x, y, z⟩ := t
          rw [eC] at s ns
          cases g with
          | none => exact s
          | some gs =>
            obtain ⟨h1, h2, h3, n1, n2, n3, f1, f2, f3⟩ := s
            refine ⟨h1, h2, h3, n1, n2, n3, ?_, ?_, ?_⟩
            · rw [upd_ne (fun z => ns (.inl z.symm))]; exact f1
            · rw [upd_ne (fun z => ns (.inr (.inl z.symm)))]; exact f2
            · rw [upd_ne (fun z => ns (.inr (.inr z.symm)))]; exact f3
    cases ed : b.d with
    | lst ds =>
      rw [ed] at top
      cases top with
      | lst h z q => obtain ⟨k1, k2⟩ := key _ h (fun _ z => by cases z) _ rfl; exact ⟨_, k1, .lst upd_same z (q.le k2), k2⟩
    | dk ds =>
      rw [ed] at top
      cases top with
      | dk h q => obtain ⟨k1, k2⟩ := key _ h (fun _ z => by cases z) _ rfl; exact ⟨_, k1, .dk upd_same (q.le k2), k2⟩
    | dt ds =>
      rw [ed] at top
      cases top with
      | dt h q => obtain ⟨k1, k2⟩ := key _ h (fun _ z => by cases z) _ rfl; exact ⟨_, k1, .dt upd_same (q.le k2), k2⟩
    | _ => rw [ed] at top; cases top

theorem RS.step {C : Cs} {H0 F H F' H' : Hp} {v : V} {b : B} (r : RS C H0 F H v b) (s : Stp C F H F' H') : RS C H0 F' H' v b := by
  unfold RS at *
  cases e : b.t with
  | sh => rw [e] at r; exact r.le s.ff
  | ow => rw [e] at r; obtain ⟨p, hp, o⟩ := r; exact ⟨p, hp, o.step s⟩
  | bw => rw [e] at r; exact r
theorem Rel.step {C : Cs} {F0 H0 F H F' H' : Hp} {ρ : Ro} {g g' : G} {σ : L2.St} (r : Rel C F0 H0 F ρ g σ H) (a : After C F H g' F' H') : Rel C F0 H0 F' ρ g' σ H' :=
  ⟨r.stp.trans a.stp, a.st, a.tabs, r.len, fun i b h => let ⟨v, h1, h2⟩ := r.slot i b h; ⟨v, h1, h2.step a.stp⟩, r.dis, r.ent⟩
theorem Rel.after {C : Cs} {F0 H0 F H : Hp} {ρ : Ro} {g : G} {σ : L2.St} (r : Rel C F0 H0 F ρ g σ H) : After C F H g F H := ⟨.refl r.stp.le, r.st, r.tabs⟩

/-- an exception, by its class and its own dict -/
def ExR (C : Cs) (F : Hp) (x : Ex) (cls : Value) (d : Option Addr) : Prop :=
  ∃ a, C.cls x.c = some a ∧ cls = .ref a ∧ ((x.fs = [] ∧ d = none) ∨ ∃ dd xs, d = some dd ∧ F dd = some (.xd xs) ∧ RepX C F xs x.fs)

def tE (C : Cs) (W : WX) (f : E) : TE := fun σ H Q => ∃ F0 H0 F ρ g, Rel C F0 H0 F ρ g σ H ∧
  onOk (f ρ g) (fun b g' => ∀ v F' H', After C F H g' F' H' → RB C H F' H' v b → Q v H') (fun x g' => ∀ cls d F' H', After C F H g' F' H' → ExR C F' x cls d → W cls d σ H')
def tA (C : Cs) (W : WX) (fs : List E) : TA := fun σ H Q => ∃ F0 H0 F ρ g, Rel C F0 H0 F ρ g σ H ∧
  onOk (eArgs fs ρ g) (fun ds g' => ∀ vs F' H', After C F H g' F' H' → Reps C F' vs ds → Q vs H') (fun x g' => ∀ cls d F' H', After C F H g' F' H' → ExR C F' x cls d → W cls d σ H')
/-- a test -/
def tT (C : Cs) (W : WX) (f : E) : TT := fun σ H Q => ∃ F0 H0 F ρ g, Rel C F0 H0 F ρ g σ H ∧
  onOk (f ρ g) (fun b g' => ∃ k, b = sh (.bl k) ∧ ∀ F' H', After C F H g' F' H' → Q k H') (fun x g' => ∀ cls d F' H', After C F H g' F' H' → ExR C F' x cls d → W cls d σ H')
abbrev SE (X : Cx) (C : Cs) (W : WX) (e : Expr) (f : E) : Prop := PE X e (tE C W f)
abbrev SA (X : Cx) (C : Cs) (W : WX) (es : List Expr) (fs : List E) : Prop := PA X es (tA C W fs)
abbrev SB (X : Cx) (C : Cs) (W : WX) (e : Expr) (f : E) : Prop := PT X e (tT C W f)
abbrev SBw (X : Cx) (C : Cs) (W : WX) (e : Expr) (f : E) : Prop := PW X e (tT C W f)

theorem pe_imp {X : Cx} {e : Expr} {t t' : TE} (h : PE X e t) (i : ∀ σ H Q, t' σ H Q → t σ H Q) : PE X e t' := ⟨fun pins s σ H Q I q => h.run pins s σ H Q I (i _ _ _ q)⟩
theorem pt_imp {X : Cx} {e : Expr} {t t' : TT} (h : PT X e t) (i : ∀ σ H Q, t' σ H Q → t σ H Q) : PT X e t' := ⟨fun pins s σ H Q I q => h.run pins s σ H Q I (i _ _ _ q)⟩
theorem pw_imp {X : Cx} {e : Expr} {t t' : TT} (h : PW X e t) (i : ∀ σ H Q, t' σ H Q → t σ H Q) : PW X e t' := ⟨fun wh pins s σ H Q I q => h.run wh pins s σ H Q I (i _ _ _ q)⟩
theorem pa_imp {X : Cx} {e : List Expr} {t t' : TA} (h : PA X e t) (i : ∀ σ H Q, t' σ H Q → t σ H Q) : PA X e t' := ⟨fun pos pins s σ H Q I q => h.run pos pins s σ H Q I (i _ _ _ q)⟩

section
variable {X : Cx} {C : Cs} {W : WX} {pos : Pos}
theorem se_var (i : Nat) {x : Str} (hN : X.N[i]? = some x := by rfl) (hv : Vis X.env.scope x := by first | exact Or.inl rfl | exact Or.inr (Or.inl rfl) | exact Or.inr (Or.inr rfl)) (hd : (x == ("__debug__" : Str)) = false := by decide)
    (hcd : (x == ("__classdict__" : Str)) = false := by decide) : SE X C W (.Name x pos) (eVar i) := by
  refine pe_imp (pe_var hN hv hd hcd) ?_
  rintro σ H Q ⟨F0, H0, F, ρ, g, rel, h⟩
  unfold eVar at h
  split at h
  · rename_i d e
    obtain ⟨v, h1, h2⟩ := rel.slot _ _ e
    exact ⟨v, h1, h v F H rel.after h2⟩
  · rename_i d e
    obtain ⟨v, h1, a, _, o⟩ := rel.slot _ _ e
    exact ⟨v, h1, h v F H rel.after ⟨a, o⟩⟩
  · exact h.elim
theorem se_c {v : V} {d : D} {e : Expr} (h : PE X e (tC v)) (r : ∀ F, Rep C F v d) : SE X C W e (eVal d) := by
  refine pe_imp h ?_
  rintro σ H Q ⟨F0, H0, F, ρ, g, rel, h⟩
  exact h v F H rel.after (r F)
theorem se_int {i : Int} {j : Nat} : SE X C W (.Constant (.int i) j pos) (eVal (.int i)) := se_c pe_int fun _ => .int i
theorem se_bl {b : Bool} {j : Nat} : SE X C W (.Constant (.bool b) j pos) (eVal (.bl b)) := se_c pe_bl fun _ => .bl b
theorem se_non {j : Nat} : SE X C W (.Constant .none j pos) (eVal .non) := se_c pe_non fun _ => .non
theorem se_str {x : Str} {j : Nat} : SE X C W (.Constant (.str x) j pos) (eVal (.str x)) := se_c pe_str fun _ => .str x
theorem se_glI {x : Str} {i : Int} (hg : Gl X x) (hm : ∃ t, X.mg x = some (.int i t)) (hd : (x == ("__debug__" : Str)) = false := by decide) : SE X C W (.Name x pos) (eVal (.int i)) := by
  obtain ⟨t, hm⟩ := hm
  exact se_c (pe_glob (v := .int i) hg hm ⟨t, rfl⟩ hd) fun _ => .int i
theorem se_glF {x : Str} {n : Nat} {f : Addr} (hg : Gl X x) (hm : X.mg x = some (.ref f)) (hn : C.fns n = some f) (hd : (x == ("__debug__" : Str)) = false := by decide) : SE X C W (.Name x pos) (eVal (.fn n)) :=
  se_c (pe_glob (v := .ref f) hg hm rfl hd) fun _ => .fn hn

/-! ### argument lists -/
theorem sa_nil : SA X C W [] [] := by
  refine pa_imp pa_nil ?_
  rintro σ H Q ⟨F0, H0, F, ρ, g, rel, h⟩
  exact h [] F H rel.after .nil
theorem sa_cons {e : Expr} {es : List Expr} {f : E} {fs : List E} (he : SE X C W e f) (hr : SA X C W es fs) (hs : starEach (e :: es) X.env = (false, eval e X.env) :: starEach es X.env := by rfl) : SA X C W (e :: es) (f :: fs) := by
  refine pa_imp (pa_cons he hr hs) ?_
  rintro σ H Q ⟨F0, H0, F, ρ, g, rel, h⟩
  unfold eArgs at h
  rw [onOk_bind] at h
  refine ⟨F0, H0, F, ρ, g, rel, onOk_mono h (fun b g1 h1 v F1 H1 a1 r1 => ?_) fun x g1 h1 => h1⟩
  split at h1
  · exact h1.elim
  · rename_i nb
    rw [onOk_bind] at h1
    obtain ⟨F2, a2, r2, l2⟩ := r1.freeze a1 (fun z => nb z)
    refine ⟨F0, H0, F2, ρ, g1, rel.step a2, onOk_mono h1 (fun ds g2 h2 vs F3 H3 a3 r3 => ?_) fun x g2 h2 cls d F3 H3 a3 e3 => h2 cls d F3 H3 (a2.trans a3) e3⟩
    exact h2 (v :: vs) F3 H3 (a2.trans a3) (.cons (r2.le a3.stp.ff) r3)

/-! ### quiet steps: something new, or nothing -/
structure Quiet (C : Cs) (F H F' H' : Hp) : Prop where
  stp : Stp C F H F' H'
  st : ∀ g, StOk C F g H → StOk C F' g H'
  tabs : TabsC C F H → TabsC C F' H'
theorem Quiet.refl {F H : Hp} (l : Le F H) : Quiet C F H F H := ⟨.refl l, fun _ h => h, fun h => h⟩
theorem tabs_ext {F H H' : Hp} (h : TabsC C F H) (e : ∀ b u, H b = some u → H' b = some u) : TabsC C F H' := ⟨h.1.ext e, fun q hq => e _ _ (h.2 q hq), h.3⟩
theorem tabs_new {F H : Hp} {p : Addr} {o : HO} (hp : H p = none) (h : TabsC C F H) : TabsC C F (upd H p o) := tabs_ext h fun b u e => by
  have : b ≠ p := fun z => by subst z; rw [hp] at e; cases e
  rw [upd_ne this]; exact e
theorem Quiet.newSh {F H : Hp} {p : Addr} {o : HO} (l : Le F H) (hp : H p = none) (ho : ∀ ps, o ≠ .tbl ps := by intro _ z; cases z) : Quiet C F H (upd F p o) (upd H p o) := ⟨.newSh l hp, fun _ h => h.new hp (.inr rfl), fun t => (tabs_new hp t).grow ho⟩
theorem Quiet.newOw {F H : Hp} {p : Addr} {o : HO} (l : Le F H) (hp : H p = none) : Quiet C F H F (upd H p o) := ⟨.newOw l hp, fun _ h => h.new hp (.inl rfl), tabs_new hp⟩
theorem After.quiet {F H F1 H1 F2 H2 : Hp} {g : G} (a : After C F H g F1 H1) (q : Quiet C F1 H1 F2 H2) : After C F H g F2 H2 := ⟨a.stp.trans q.stp, q.st _ a.st, q.tabs a.tabs⟩

/-! ### operators by values -/
def OpOk (X : Cx) (C : Cs) (py : Value → Value → Sem Value) (o : Op2) : Prop := ∃ r : R2, OpR X py r ∧ ∀ x y dx dy F H b Q, Le F H → (∀ a, InSt C a → H a ≠ none) → RO C F H x dx → RO C F H y dy → o dx dy = some b →
  (∀ v F' H', Quiet C F H F' H' → RB C H F' H' v b → Q v H') → r x y H Q
theorem Rel.inst {F0 H0 F H : Hp} {ρ : Ro} {g : G} {σ : L2.St} (r : Rel C F0 H0 F ρ g σ H) : ∀ a, InSt C a → H a ≠ none := fun _ h => InSt.there r.st h
theorem two_ops {o : Op2} {f h : E} {r : R2} {σ : L2.St} {H : Hp} {Q : VK}
    (hr : ∀ x y dx dy F H b Q, Le F H → (∀ a, InSt C a → H a ≠ none) → RO C F H x dx → RO C F H y dy → o dx dy = some b → (∀ v F' H', Quiet C F H F' H' → RB C H F' H' v b → Q v H') → r x y H Q)
    (t : tE C W (eBin o f h) σ H Q) : tOp r (tE C W f) (tE C W h) σ H Q := by
  obtain ⟨F0, H0, F, ρ, g, rel, hh⟩ := t
  unfold eBin at hh
  rw [onOk_bind] at hh
  refine ⟨F0, H0, F, ρ, g, rel, onOk_mono hh (fun b g1 h1 v F1 H1 a1 r1 => ?_) fun x g1 h1 => h1⟩
  rw [onOk_bind] at h1
  have rel1 := rel.step a1
  refine ⟨F0, H0, F1, ρ, g1, rel1, onOk_mono h1 (fun c g2 h2 y F2 H2 a2 r2 => ?_) fun x g2 h2 cls d F2 H2 a2 e2 => h2 cls d F2 H2 (a1.trans a2) e2⟩
  split at h2
  · rename_i bb e
    refine hr v y _ _ F2 H2 bb Q a2.stp.le (rel1.step a2).inst (r1.ro.step a2.stp) r2.ro e fun u F3 H3 q rb => ?_
    exact h2 u F3 H3 ((a1.trans a2).quiet q) (rb.early (a1.trans a2))
  · exact h2.elim
theorem se_op {op : Operator} {o : Op2} {a b : Expr} {f h : E} (ho : OpOk X C (binaryOp op) o) (ha : SE X C W a f) (hb : SE X C W b h) : SE X C W (.BinOp a op b pos) (eBin o f h) := by
  obtain ⟨r, h1, h2⟩ := ho
  exact pe_imp (pe_op h1 ha hb) fun σ H Q t => two_ops h2 t
theorem se_cmp {op : CmpOp} {o : Op2} {a b : Expr} {f h : E} (ho : OpOk X C (compareOp op) o) (ha : SE X C W a f) (hb : SE X C W b h) (hm : behindInMarks op b = false := by first | rfl | exact nomark _) : SE X C W (.Compare a [op] [b] pos) (eBin o f h) := by
  obtain ⟨r, h1, h2⟩ := ho
  exact pe_imp (pe_cmpR h1 ha hb hm) fun σ H Q t => two_ops h2 t
theorem test_of {f : E} {t : TE} {σ : L2.St} {H : Hp} {Q : Bool → Hp → Prop} (i : ∀ σ H Q, tE C W f σ H Q → t σ H Q) (h : tT C W f σ H Q) : t σ H fun x H' => ∃ k, x = .bl k ∧ Q k H' := by
  obtain ⟨F0, H0, F, ρ, g, rel, hh⟩ := h
  refine i _ _ _ ⟨F0, H0, F, ρ, g, rel, onOk_mono hh (fun b g1 h1 v F1 H1 a1 r1 => ?_) fun x g1 h1 => h1⟩
  obtain ⟨k, rfl, h1⟩ := h1
  have r1 : Rep C F1 v (.bl k) := r1
  cases r1
  exact ⟨k, rfl, h1 F1 H1 a1⟩
theorem sb_cmp {op : CmpOp} {o : Op2} {a b : Expr} {f h : E} (ho : OpOk X C (compareOp op) o) (ha : SE X C W a f) (hb : SE X C W b h) (hm : behindInMarks op b = false := by first | rfl | exact nomark _) : SB X C W (.Compare a [op] [b] pos) (eBin o f h) := by
  obtain ⟨r, h1, h2⟩ := ho
  exact pt_imp (pt_cmpR h1 ha hb hm) fun σ H Q t => test_of (fun σ H Q t => two_ops h2 t) t
/-- an expression whose value is a truth value, as a test -/
theorem sb_val {e : Expr} {f : E} (h : SE X C W e f) (he : ∀ whole, isTrue e X.env whole = (do let v ← whole; standAt e.pos; holding [v] (truthy v)) := by intro _; rfl) : SB X C W e f :=
  pt_imp (pt_val h he) fun σ H Q t => test_of (fun σ H Q t => t) t
theorem three_ops {o o' : Op2} {f h k : E} {r r' : R2} {σ : L2.St} {H : Hp} {Q : VK}
    (hr : ∀ x y dx dy F H b Q, Le F H → (∀ a, InSt C a → H a ≠ none) → RO C F H x dx → RO C F H y dy → o dx dy = some b → (∀ v F' H', Quiet C F H F' H' → RB C H F' H' v b → Q v H') → r x y H Q)
    (hr' : ∀ x y dx dy F H b Q, Le F H → (∀ a, InSt C a → H a ≠ none) → RO C F H x dx → RO C F H y dy → o' dx dy = some b → (∀ v F' H', Quiet C F H F' H' → RB C H F' H' v b → Q v H') → r' x y H Q)
    (t : tE C W (eChain o o' f h k) σ H Q) : tChain r r' (tE C W f) (tE C W h) (tE C W k) σ H Q := by
  obtain ⟨F0, H0, F, ρ, g, rel, hh⟩ := t
  unfold eChain at hh
  rw [onOk_bind] at hh
  refine ⟨F0, H0, F, ρ, g, rel, onOk_mono hh (fun b g1 h1 v F1 H1 a1 r1 => ?_) fun x g1 h1 => h1⟩
  rw [onOk_bind] at h1
  have rel1 := rel.step a1
  refine ⟨F0, H0, F1, ρ, g1, rel1, onOk_mono h1 (fun c g2 h2 y F2 H2 a2 r2 => ?_) fun x g2 h2 cls d F2 H2 a2 e2 => h2 cls d F2 H2 (a1.trans a2) e2⟩
  have rel2 := rel1.step a2
  split at h2
  · rename_i e
    refine hr v y _ _ F2 H2 _ _ a2.stp.le rel2.inst (r1.ro.step a2.stp) r2.ro e fun u F3 H3 q rb => ?_
    have rb : Rep C F3 u (.bl true) := rb
    cases rb
    refine ⟨true, rfl, ?_⟩
    refine iteT ?_
    rw [onOk_bind] at h2
    have a3 := (a1.trans a2).quiet q
    have rel3 := rel.step a3
    refine ⟨F0, H0, F3, ρ, g2, rel3, onOk_mono h2 (fun d g3 h3 z F4 H4 a4 r4 => ?_) fun x g3 h3 cls d F4 H4 a4 e4 => h3 cls d F4 H4 (a3.trans a4) e4⟩
    split at h3
    · rename_i bb e'
      refine hr' y z _ _ F4 H4 bb Q a4.stp.le (rel3.step a4).inst ((r2.ro.step q.stp).step a4.stp) r4.ro e' fun u F5 H5 q5 rb => ?_
      exact h3 u F5 H5 ((a3.trans a4).quiet q5) (rb.early (a3.trans a4))
    · exact h3.elim
  · rename_i e
    refine hr v y _ _ F2 H2 _ _ a2.stp.le rel2.inst (r1.ro.step a2.stp) r2.ro e fun u F3 H3 q rb => ?_
    have rb : Rep C F3 u (.bl false) := rb
    cases rb
    refine ⟨false, rfl, ?_⟩
    refine iteF ?_
    exact h2 _ F3 H3 ((a1.trans a2).quiet q) (.bl false)
  · exact h2.elim
theorem se_chain {op op' : CmpOp} {o o' : Op2} {a b c : Expr} {f h k : E} (ho : OpOk X C (compareOp op) o) (ho' : OpOk X C (compareOp op') o') (ha : SE X C W a f) (hb : SE X C W b h) (hc : SE X C W c k)
    (hm : lastMarks [op, op'] [b, c] = false := by rfl) : SE X C W (.Compare a [op, op'] [b, c] pos) (eChain o o' f h k) := by
  obtain ⟨r, h1, h2⟩ := ho
  obtain ⟨r', h1', h2'⟩ := ho'
  exact pe_imp (pe_chain h1 h1' ha hb hc hm) fun σ H Q t => three_ops h2 h2' t
theorem sb_chain {op op' : CmpOp} {o o' : Op2} {a b c : Expr} {f h k : E} (ho : OpOk X C (compareOp op) o) (ho' : OpOk X C (compareOp op') o') (ha : SE X C W a f) (hb : SE X C W b h) (hc : SE X C W c k)
    (hm : lastMarks [op, op'] [b, c] = false := by rfl) : SB X C W (.Compare a [op, op'] [b, c] pos) (eChain o o' f h k) := by
  obtain ⟨r, h1, h2⟩ := ho
  obtain ⟨r', h1', h2'⟩ := ho'
  exact pt_imp (pt_chain h1 h1' ha hb hc hm) fun σ H Q t => test_of (fun σ H Q t => three_ops h2 h2' t) t

/-! ### and, or, not, if -/
theorem sbw_one_and {e : Expr} {f : E} (h : SB X C W e f) : SBw X C W (.BoolOp .And [e] pos) f := pw_and1 h
theorem sbw_one_or {e : Expr} {f : E} (h : SB X C W e f) : SBw X C W (.BoolOp .Or [e] pos) f := pw_or1 h
theorem and_ops {f h : E} {σ : L2.St} {H : Hp} {Q : Bool → Hp → Prop} (t : tT C W (eAnd f h) σ H Q) : tAnd (tT C W f) (tT C W h) σ H Q := by
  obtain ⟨F0, H0, F, ρ, g, rel, hh⟩ := t
  unfold eAnd at hh
  rw [onOk_bind] at hh
  refine ⟨F0, H0, F, ρ, g, rel, onOk_mono hh (fun b g1 h1 => ?_) fun x g1 h1 => h1⟩
  split at h1
  · refine ⟨true, rfl, fun F1 H1 a1 => ?_⟩
    refine iteT ?_
    exact ⟨F0, H0, F1, ρ, g1, rel.step a1, onOk_mono h1 (fun c g2 ⟨k, ek, h2⟩ => ⟨k, ek, fun F2 H2 a2 => h2 F2 H2 (a1.trans a2)⟩) fun x g2 h2 cls d F2 H2 a2 e2 => h2 cls d F2 H2 (a1.trans a2) e2⟩
  · refine ⟨false, rfl, fun F1 H1 a1 => ?_⟩
    refine iteF ?_
    obtain ⟨k, ek, h1⟩ := h1
    cases ek
    exact h1 F1 H1 a1
  · exact h1.elim
theorem or_ops {f h : E} {σ : L2.St} {H : Hp} {Q : Bool → Hp → Prop} (t : tT C W (eOr f h) σ H Q) : tOr (tT C W f) (tT C W h) σ H Q := by
  obtain ⟨F0, H0, F, ρ, g, rel, hh⟩ := t
  unfold eOr at hh
  rw [onOk_bind] at hh
  refine ⟨F0, H0, F, ρ, g, rel, onOk_mono hh (fun b g1 h1 => ?_) fun x g1 h1 => h1⟩
  split at h1
  · refine ⟨true, rfl, fun F1 H1 a1 => ?_⟩
    refine iteT ?_
    obtain ⟨k, ek, h1⟩ := h1
    cases ek
    exact h1 F1 H1 a1
  · refine ⟨false, rfl, fun F1 H1 a1 => ?_⟩
    refine iteF ?_
    exact ⟨F0, H0, F1, ρ, g1, rel.step a1, onOk_mono h1 (fun c g2 ⟨k, ek, h2⟩ => ⟨k, ek, fun F2 H2 a2 => h2 F2 H2 (a1.trans a2)⟩) fun x g2 h2 cls d F2 H2 a2 e2 => h2 cls d F2 H2 (a1.trans a2) e2⟩
  · exact h1.elim
theorem sbw_and {a b : Expr} {rest : List Expr} {f h : E} (ha : SB X C W a f) (hb : SBw X C W (.BoolOp .And (b :: rest) pos) h) : SBw X C W (.BoolOp .And (a :: b :: rest) pos) (eAnd f h) :=
  pw_imp (pw_and ha hb) fun σ H Q t => and_ops t
theorem sbw_or {a b : Expr} {rest : List Expr} {f h : E} (ha : SB X C W a f) (hb : SBw X C W (.BoolOp .Or (b :: rest) pos) h) : SBw X C W (.BoolOp .Or (a :: b :: rest) pos) (eOr f h) :=
  pw_imp (pw_or ha hb) fun σ H Q t => or_ops t
theorem sb_not {a : Expr} {f : E} (ha : SB X C W a f) : SB X C W (.UnaryOp .Not a pos) (eNot f) := by
  refine pt_imp (pt_not ha) ?_
  rintro σ H Q ⟨F0, H0, F, ρ, g, rel, hh⟩
  unfold eNot at hh
  rw [onOk_bind] at hh
  refine ⟨F0, H0, F, ρ, g, rel, onOk_mono hh (fun b g1 h1 => ?_) fun x g1 h1 => h1⟩
  split at h1
  · rename_i k
    obtain ⟨k', ek, h1⟩ := h1
    cases ek
    exact ⟨k, rfl, h1⟩
  · exact h1.elim
theorem se_not {a : Expr} {f : E} (ha : SE X C W a f) : SE X C W (.UnaryOp .Not a pos) (eNot f) := by
  refine pe_imp (pe_not ha) ?_
  rintro σ H Q ⟨F0, H0, F, ρ, g, rel, hh⟩
  unfold eNot at hh
  rw [onOk_bind] at hh
  refine ⟨F0, H0, F, ρ, g, rel, onOk_mono hh (fun b g1 h1 v F1 H1 a1 r1 => ?_) fun x g1 h1 => h1⟩
  split at h1
  · have r1 : Rep C F1 v (.bl _) := r1
    cases r1
    exact ⟨_, rfl, h1 _ F1 H1 a1 (.bl _)⟩
  · exact h1.elim
theorem se_one {op : BoolOp} {a : Expr} {f : E} (ha : SE X C W a f) : SE X C W (.BoolOp op [a] pos) f := pe_one ha
theorem se_and {a b : Expr} {rest : List Expr} {f h : E} (ha : SE X C W a f) (hb : SE X C W (.BoolOp .And (b :: rest) pos) h) : SE X C W (.BoolOp .And (a :: b :: rest) pos) (eAnd f h) := by
  refine pe_imp (pe_and ha hb) ?_
  rintro σ H Q ⟨F0, H0, F, ρ, g, rel, hh⟩
  unfold eAnd at hh
  rw [onOk_bind] at hh
  refine ⟨F0, H0, F, ρ, g, rel, onOk_mono hh (fun b g1 h1 v F1 H1 a1 r1 => ?_) fun x g1 h1 => h1⟩
  split at h1
  · have r1 : Rep C F1 v (.bl true) := r1
    cases r1
    refine ⟨true, rfl, ?_⟩
    refine iteT ?_
    exact ⟨F0, H0, F1, ρ, g1, rel.step a1, onOk_mono h1 (fun c g2 h2 y F2 H2 a2 r2 => h2 y F2 H2 (a1.trans a2) (r2.early a1)) fun x g2 h2 cls d F2 H2 a2 e2 => h2 cls d F2 H2 (a1.trans a2) e2⟩
  · have r1 : Rep C F1 v (.bl false) := r1
    cases r1
    refine ⟨false, rfl, ?_⟩
    refine iteF ?_
    exact h1 _ F1 H1 a1 (.bl false)
  · exact h1.elim
theorem se_or {a b : Expr} {rest : List Expr} {f h : E} (ha : SE X C W a f) (hb : SE X C W (.BoolOp .Or (b :: rest) pos) h) : SE X C W (.BoolOp .Or (a :: b :: rest) pos) (eOr f h) := by
  refine pe_imp (pe_or ha hb) ?_
  rintro σ H Q ⟨F0, H0, F, ρ, g, rel, hh⟩
  unfold eOr at hh
  rw [onOk_bind] at hh
  refine ⟨F0, H0, F, ρ, g, rel, onOk_mono hh (fun b g1 h1 v F1 H1 a1 r1 => ?_) fun x g1 h1 => h1⟩
  split at h1
  · have r1 : Rep C F1 v (.bl true) := r1
    cases r1
    refine ⟨true, rfl, ?_⟩
    refine iteT ?_
    exact h1 _ F1 H1 a1 (.bl true)
  · have r1 : Rep C F1 v (.bl false) := r1
    cases r1
    refine ⟨false, rfl, ?_⟩
    refine iteF ?_
    exact ⟨F0, H0, F1, ρ, g1, rel.step a1, onOk_mono h1 (fun c g2 h2 y F2 H2 a2 r2 => h2 y F2 H2 (a1.trans a2) (r2.early a1)) fun x g2 h2 cls d F2 H2 a2 e2 => h2 cls d F2 H2 (a1.trans a2) e2⟩
  · exact h1.elim
theorem se_if {c a b : Expr} {k f h : E} (hc : SB X C W c k) (ha : SE X C W a f) (hb : SE X C W b h) : SE X C W (.IfExp c a b pos) (eIf k f h) := by
  refine pe_imp (pe_ifExp hc ha hb) ?_
  rintro σ H Q ⟨F0, H0, F, ρ, g, rel, hh⟩
  unfold eIf at hh
  rw [onOk_bind] at hh
  refine ⟨F0, H0, F, ρ, g, rel, onOk_mono hh (fun b g1 h1 => ?_) fun x g1 h1 => h1⟩
  split at h1
  · refine ⟨true, rfl, fun F1 H1 a1 => ?_⟩
    refine iteT ?_
    exact ⟨F0, H0, F1, ρ, g1, rel.step a1, onOk_mono h1 (fun c g2 h2 y F2 H2 a2 r2 => h2 y F2 H2 (a1.trans a2) (r2.early a1)) fun x g2 h2 cls d F2 H2 a2 e2 => h2 cls d F2 H2 (a1.trans a2) e2⟩
  · refine ⟨false, rfl, fun F1 H1 a1 => ?_⟩
    refine iteF ?_
    exact ⟨F0, H0, F1, ρ, g1, rel.step a1, onOk_mono h1 (fun c g2 h2 y F2 H2 a2 r2 => h2 y F2 H2 (a1.trans a2) (r2.early a1)) fun x g2 h2 cls d F2 H2 a2 e2 => h2 cls d F2 H2 (a1.trans a2) e2⟩
  · exact h1.elim

/-! ### displays -/
theorem sizeL {n : Nat} (h : n ≤ LIM) : n ≤ sizeLine := by rw [sizeLine_eq]; unfold LIM at h; omega
theorem len_args {fs : List E} {ρ : Ro} {g g' : G} {ds : List D} : eArgs fs ρ g = .ok ds g' → ds.length = fs.length := by
  induction fs generalizing g ds g' with
  | nil => intro h; cases h; rfl
  | cons f fs ih =>
    intro h
    unfold eArgs at h
    cases q : f ρ g with
    | ok b g1 =>
      rw [q] at h
      have h : (match b.t with | .bw => R.no | _ => (eArgs fs ρ g1).bind fun ds g2 => .ok (b.d :: ds) g2) = .ok ds g' := h
      split at h
      · cases h
      · cases q2 : eArgs fs ρ g1 with
        | ok es g2 => rw [q2] at h; cases h; simp [ih q2]
        | er x g2 => rw [q2] at h; cases h
        | no => rw [q2] at h; cases h
    | er x g1 => rw [q] at h; cases h
    | no => rw [q] at h; cases h
theorem onOk_of {α : Type} {r : R α} {K : α → G → Prop} {X : Ex → G → Prop} (h : onOk r K X) : onOk r (fun a g => r = .ok a g ∧ K a g) X := by
  cases r with
  | ok a g => exact ⟨rfl, h⟩
  | er x g => exact h
  | no => exact h
theorem se_tup {es : List Expr} {fs : List E} {x1 : Nat} (h : SA X C W es fs) (hl : fs.length ≤ LIM := by first | decide | (show _ ≤ 1000000; simp)) : SE X C W (.Tuple es x1 pos) (eTup fs) := by
  refine pe_imp (pe_tup h) ?_
  rintro σ H Q ⟨F0, H0, F, ρ, g, rel, hh⟩
  unfold eTup at hh
  rw [onOk_bind] at hh
  refine ⟨F0, H0, F, ρ, g, rel, onOk_mono (onOk_of hh) (fun ds g1 ⟨el, h1⟩ vs F1 H1 a1 r1 => ?_) fun x g1 h1 => h1⟩
  have hz : vs.length ≤ sizeLine := sizeL (by rw [r1.length, len_args el]; exact hl)
  refine ⟨hz, fun p hp => ?_⟩
  have q : Quiet C F1 H1 (upd F1 p (.tup vs)) (upd H1 p (.tup vs)) := .newSh a1.stp.le hp
  exact h1 (.ref p) _ _ (a1.quiet q) (.tup upd_same hz (r1.le q.stp.ff))
theorem se_lst {es : List Expr} {fs : List E} (h : SA X C W es fs) (hl : fs.length ≤ LIM := by first | decide | (show _ ≤ 1000000; simp)) : SE X C W (.List es pos) (eLst fs) := by
  refine pe_imp (pe_lst h) ?_
  rintro σ H Q ⟨F0, H0, F, ρ, g, rel, hh⟩
  unfold eLst at hh
  rw [onOk_bind] at hh
  refine ⟨F0, H0, F, ρ, g, rel, onOk_mono (onOk_of hh) (fun ds g1 ⟨el, h1⟩ vs F1 H1 a1 r1 => ?_) fun x g1 h1 => h1⟩
  have hz : vs.length ≤ sizeLine := sizeL (by rw [r1.length, len_args el]; exact hl)
  refine ⟨hz, fun p hp => ?_⟩
  have q : Quiet C F1 H1 F1 (upd H1 p (.lst vs)) := .newOw a1.stp.le hp
  have ns : ¬ InSt C p := fun z => InSt.there a1.st z hp
  exact h1 (.ref p) _ _ (a1.quiet q) ⟨p, a1.none hp, rfl, a1.stp.le.free hp, ns, .lst upd_same hz (r1.le q.stp.ff)⟩
theorem se_dk0 : SE X C W (.Dict [] [] pos) eDk0 := by
  refine pe_imp pe_dnewK ?_
  rintro σ H Q ⟨F0, H0, F, ρ, g, rel, hh⟩ p hp
  have q : Quiet C F H F (upd H p (.dK [])) := .newOw rel.stp.le hp
  exact hh (.ref p) _ _ (rel.after.quiet q) ⟨p, hp, rfl, rel.stp.le.free hp, fun z => InSt.there rel.st z hp, .dk upd_same .nil⟩
theorem se_dt0 : SE X C W (.Dict [] [] pos) eDt0 := by
  refine pe_imp pe_dnewT ?_
  rintro σ H Q ⟨F0, H0, F, ρ, g, rel, hh⟩ p hp
  have q : Quiet C F H F (upd H p (.dT [])) := .newOw rel.stp.le hp
  exact hh (.ref p) _ _ (rel.after.quiet q) ⟨p, hp, rfl, rel.stp.le.free hp, fun z => InSt.there rel.st z hp, .dt upd_same .nil⟩
end
end Sx

set_option Elab.async false
set_option linter.all false
set_option maxRecDepth 100000
set_option maxHeartbeats 4000000
/-! Sx4: the operators. -/
namespace Sx
open PySem PySem.Spec PyProof.Rows L2
section
variable {X : Cx} {C : Cs} {W : WX} {pos : Pos}

/-! ### what data tell of values -/
theorem ro_int {F H : Hp} {x : V} {i : Int} (r : RO C F H x (.int i)) : x = .int i := by
  rcases r with r | ⟨a, _, _, _, t⟩
  · cases r; rfl
  · cases t
theorem ro_bl {F H : Hp} {x : V} {i : Bool} (r : RO C F H x (.bl i)) : x = .bl i := by
  rcases r with r | ⟨a, _, _, _, t⟩
  · cases r; rfl
  · cases t
theorem ro_str {F H : Hp} {x : V} {i : Str} (r : RO C F H x (.str i)) : x = .str i := by
  rcases r with r | ⟨a, _, _, _, t⟩
  · cases r; rfl
  · cases t
theorem ro_non {F H : Hp} {x : V} (r : RO C F H x .non) : x = .non := by
  rcases r with r | ⟨a, _, _, _, t⟩
  · cases r; rfl
  · cases t
theorem ro_lst {F H : Hp} {x : V} {ds : List D} (l : Le F H) (r : RO C F H x (.lst ds)) : ∃ a vs, x = .ref a ∧ H a = some (.lst vs) ∧ vs.length ≤ sizeLine ∧ Reps C F vs ds := by
  rcases r with r | ⟨a, rfl, _, _, t⟩
  · cases r with
    | lst h z q => exact ⟨_, _, rfl, l _ _ h, z, q⟩
  · cases t with
    | lst h z q => exact ⟨_, _, rfl, h, z, q⟩
theorem ro_tup {F H : Hp} {x : V} {ds : List D} (l : Le F H) (r : RO C F H x (.tup ds)) : ∃ a vs, x = .ref a ∧ F a = some (.tup vs) ∧ H a = some (.tup vs) ∧ vs.length ≤ sizeLine ∧ Reps C F vs ds := by
  rcases r with r | ⟨a, rfl, _, _, t⟩
  · cases r with
    | tup h z q => exact ⟨_, _, rfl, h, l _ _ h, z, q⟩
  · cases t
theorem ro_dk {F H : Hp} {x : V} {ds : List (Int × D)} (l : Le F H) (r : RO C F H x (.dk ds)) : ∃ a vs, x = .ref a ∧ H a = some (.dK vs) ∧ RepK C F vs ds := by
  rcases r with r | ⟨a, rfl, _, _, t⟩
  · cases r with
    | dk h q => exact ⟨_, _, rfl, l _ _ h, q⟩
  · cases t with
    | dk h q => exact ⟨_, _, rfl, h, q⟩
theorem ro_dt {F H : Hp} {x : V} {ds : List (List Int × D)} (l : Le F H) (r : RO C F H x (.dt ds)) : ∃ a vs, x = .ref a ∧ H a = some (.dT vs) ∧ RepT C F vs ds := by
  rcases r with r | ⟨a, rfl, _, _, t⟩
  · cases r with
    | dt h q => exact ⟨_, _, rfl, l _ _ h, q⟩
  · cases t with
    | dt h q => exact ⟨_, _, rfl, h, q⟩
/-- a flat answer where one stands -/
theorem q_here {F H : Hp} {b : B} {Q : VK} {v : V} (l : Le F H) (k : ∀ v F' H', Quiet C F H F' H' → RB C H F' H' v b → Q v H') (e : b.t = .sh) (r : Rep C F v b.d) : Q v H :=
  k v F H (.refl l) (by unfold RB; rw [e]; exact r)
theorem q_tup {F H : Hp} {Q : VK} {ds : List D} {vs : List V} {p : Addr} (l : Le F H) (k : ∀ v F' H', Quiet C F H F' H' → RB C H F' H' v (sh (.tup ds)) → Q v H') (hp : H p = none) (z : vs.length ≤ sizeLine) (r : Reps C F vs ds) : Q (.ref p) (upd H p (.tup vs)) := by
  have q : Quiet C F H (upd F p (.tup vs)) (upd H p (.tup vs)) := .newSh l hp
  exact k _ _ _ q (.tup upd_same z (r.le q.stp.ff))
theorem q_lst {F H : Hp} {Q : VK} {ds : List D} {vs : List V} {p : Addr} (l : Le F H) (i : ∀ a, InSt C a → H a ≠ none) (k : ∀ v F' H', Quiet C F H F' H' → RB C H F' H' v (ow (.lst ds)) → Q v H') (hp : H p = none) (z : vs.length ≤ sizeLine) (r : Reps C F vs ds) : Q (.ref p) (upd H p (.lst vs)) := by
  have q : Quiet C F H F (upd H p (.lst vs)) := .newOw l hp
  exact k _ _ _ q ⟨p, hp, rfl, l.free hp, fun z => i _ z hp, .lst upd_same z (r.le q.stp.ff)⟩

theorem ok_add : OpOk X C (binaryOp .Add) oAdd := by
  refine ⟨_, op_add.or (op_cat.or op_catA), fun x y dx dy F H b Q l i rx ry e k => ?_⟩
  unfold oAdd at e
  split at e
  · cases e
    rw [ro_int rx, ro_int ry]
    exact .inl ⟨_, _, rfl, rfl, q_here l k rfl (.int _)⟩
  · split at e
    · rename_i xs ys hz
      cases e
      obtain ⟨a, vs, rfl, ha, _, ra⟩ := ro_lst l rx
      obtain ⟨c, ws, rfl, hc, _, rc⟩ := ro_lst l ry
      have z : vs.length + ws.length ≤ sizeLine := sizeL (by rw [ra.length, rc.length]; exact hz)
      refine .inr (.inl ⟨a, c, vs, ws, rfl, rfl, ha, hc, z, fun p hp => ?_⟩)
      exact q_lst l i k hp (by rw [List.length_append]; exact z) (ra.append rc)
    · cases e
  · split at e
    · rename_i xs ys hz
      cases e
      obtain ⟨a, vs, rfl, fa, ha, za, ra⟩ := ro_tup l rx
      obtain ⟨c, ws, rfl, fc, hc, zc, rc⟩ := ro_tup l ry
      have z : vs.length + ws.length ≤ sizeLine := sizeL (by rw [ra.length, rc.length]; exact hz)
      refine .inr (.inr ⟨a, c, vs, ws, rfl, rfl, SqT.of ha, SqT.of hc, z, fun h0 => ?_, fun _ h1 => ?_, fun _ _ p hp => ?_⟩)
      · subst h0
        cases ra
        exact q_here l k rfl (.tup fc zc rc)
      · subst h1
        cases rc
        refine q_here l k rfl ?_
        rw [List.append_nil]
        exact .tup fa za ra
      · exact q_tup l k hp (by rw [List.length_append]; exact z) (ra.append rc)
    · cases e
  · cases e
theorem ok_sub : OpOk X C (binaryOp .Sub) oSub := by
  refine ⟨_, op_sub, fun x y dx dy F H b Q l i rx ry e k => ?_⟩
  unfold oSub at e
  split at e
  · cases e
    rw [ro_int rx, ro_int ry]
    exact ⟨_, _, rfl, rfl, q_here l k rfl (.int _)⟩
  · cases e
theorem Reps.rep {F : Hp} {vs : List V} {ds : List D} (r : Reps C F vs ds) : ∀ n : Nat, Reps C F (List.replicate n vs).flatten (List.replicate n ds).flatten
  | 0 => .nil
  | n + 1 => by
    rw [List.replicate_succ, List.replicate_succ, List.flatten_cons, List.flatten_cons]
    exact r.append (Reps.rep r n)
theorem len_rep {α : Type} (n : Nat) (xs : List α) : (List.replicate n xs).flatten.length = n * xs.length := by
  induction n with
  | zero => simp
  | succ n ih => rw [List.replicate_succ, List.flatten_cons, List.length_append, ih, Nat.succ_mul, Nat.add_comm]
theorem ok_mul : OpOk X C (binaryOp .Mult) oMul := by
  refine ⟨_, op_mulW.or (op_rep.or op_repT), fun x y dx dy F H b Q l i rx ry e k => ?_⟩
  unfold oMul at e
  split at e
  · split at e
    · rename_i hz
      cases e
      rw [ro_int rx, ro_int ry]
      exact .inl ⟨_, _, rfl, rfl, (by simp only [mulOk, decide_eq_true_eq] at hz; exact hz), q_here l k rfl (.int _)⟩
    · cases e
  · split at e
    · rename_i xs n hz
      cases e
      obtain ⟨a, vs, rfl, ha, _, ra⟩ := ro_lst l rx
      rw [ro_int ry]
      obtain ⟨h1, h2, h3⟩ := hz
      have e2 : vs.length * n.toNat ≤ LIM := by rw [ra.length]; exact h1
      unfold LIM at h2 h3
      refine .inr (.inl ⟨a, n, vs, rfl, rfl, ha, by omega, by omega, sizeL e2, fun p hp => ?_⟩)
      exact q_lst l i k hp (sizeL (by rw [len_rep, Nat.mul_comm]; exact e2)) (ra.rep _)
    · cases e
  · split at e
    · rename_i xs n hz
      cases e
      obtain ⟨a, vs, rfl, fa, ha, za, ra⟩ := ro_tup l rx
      rw [ro_int ry]
      obtain ⟨h0, h1, h2, h3⟩ := hz
      refine .inr (.inr ⟨a, n, vs, rfl, rfl, SqT.of ha, fun z => h0 ?_, h1, h2, by rw [ra.length]; exact h3, fun p hp => ?_⟩)
      · subst z; cases ra; rfl
      · refine q_tup l k hp (sizeL ?_) (ra.rep _)
        rw [len_rep, ra.length]
        have : n.toNat * xs.length ≤ 1000 * 1000 := Nat.mul_le_mul (by omega) h3
        unfold LIM
        omega
    · cases e
  · cases e
theorem op_fdivA : OpR X (binaryOp .FloorDiv) (rI (fun _ j => j ≠ 0 ∧ j.natAbs.log2 < 9000) fun i j => .int (i.fdiv j)) := opI fun _ _ _ _ _ _ _ hc q => floordiv_int hc.1 q (.inl (PyProof.noPylong_of_log2 hc.2))
theorem ok_div : OpOk X C (binaryOp .FloorDiv) oDiv := by
  refine ⟨_, op_fdivA, fun x y dx dy F H b Q l i rx ry e k => ?_⟩
  unfold oDiv at e
  split at e
  · split at e
    · rename_i hz
      cases e
      rw [ro_int rx, ro_int ry]
      exact ⟨_, _, rfl, rfl, of_decide_eq_true hz, q_here l k rfl (.int _)⟩
    · cases e
  · cases e
theorem ok_mod : OpOk X C (binaryOp .Mod) oMod := by
  refine ⟨_, op_modN, fun x y dx dy F H b Q l i rx ry e k => ?_⟩
  unfold oMod at e
  split at e
  · split at e
    · rename_i hz
      cases e
      rw [ro_int rx, ro_int ry]
      exact ⟨_, _, rfl, rfl, hz, q_here l k rfl (.int _)⟩
    · cases e
  · cases e
theorem ok_pow : OpOk X C (binaryOp .Pow) oPow := by
  refine ⟨_, op_pow, fun x y dx dy F H b Q l i rx ry e k => ?_⟩
  unfold oPow at e
  split at e
  · split at e
    · rename_i hz
      cases e
      rw [ro_int rx, ro_int ry]
      exact ⟨_, _, rfl, rfl, hz, q_here l k rfl (.int _)⟩
    · cases e
  · cases e
theorem ok_shl : OpOk X C (binaryOp .LShift) oShl := by
  refine ⟨_, op_shl, fun x y dx dy F H b Q l i rx ry e k => ?_⟩
  unfold oShl at e
  split at e
  · split at e
    · rename_i hz
      cases e
      rw [ro_int rx, ro_int ry]
      exact ⟨_, _, rfl, rfl, hz, q_here l k rfl (.int _)⟩
    · cases e
  · cases e
theorem ok_lt : OpOk X C (compareOp .Lt) oLt := by
  refine ⟨_, op_lt, fun x y dx dy F H b Q l i rx ry e k => ?_⟩
  unfold oLt at e
  split at e
  · cases e
    rw [ro_int rx, ro_int ry]
    exact ⟨_, _, rfl, rfl, q_here l k rfl (.bl _)⟩
  · cases e
theorem ok_le : OpOk X C (compareOp .LtE) oLe := by
  refine ⟨_, op_le, fun x y dx dy F H b Q l i rx ry e k => ?_⟩
  unfold oLe at e
  split at e
  · cases e
    rw [ro_int rx, ro_int ry]
    exact ⟨_, _, rfl, rfl, q_here l k rfl (.bl _)⟩
  · cases e
theorem ok_gt : OpOk X C (compareOp .Gt) oGt := by
  refine ⟨_, op_gt, fun x y dx dy F H b Q l i rx ry e k => ?_⟩
  unfold oGt at e
  split at e
  · cases e
    rw [ro_int rx, ro_int ry]
    exact ⟨_, _, rfl, rfl, q_here l k rfl (.bl _)⟩
  · cases e
theorem ok_ge : OpOk X C (compareOp .GtE) oGe := by
  refine ⟨_, op_ge, fun x y dx dy F H b Q l i rx ry e k => ?_⟩
  unfold oGe at e
  split at e
  · cases e
    rw [ro_int rx, ro_int ry]
    exact ⟨_, _, rfl, rfl, q_here l k rfl (.bl _)⟩
  · cases e

/-! ### plain data as the library's data -/
theorem dp_of {K : PySem.W.Frag} {F H : Hp} (l : Le F H) : ∀ (n : Nat) (d : D) (v : V), plainAt n d = true → Rep C F v d → Dp K H v d.py := by
  intro n
  induction n with
  | zero =>
    intro d v p r
    cases d <;> (try (simp [plainAt] at p; done)) <;> cases r <;> (unfold D.py; first | exact .non | exact .bl _ | exact .int _ | exact .str _)
  | succ n ih =>
    have all : ∀ (ds : List D) (vs : List V), ds.all (plainAt n) = true → Reps C F vs ds → DpAll K H vs (pys ds) := by
      intro ds
      induction ds with
      | nil => intro vs _ r; cases r; exact .nil
      | cons d ds ih2 =>
        intro vs p r
        cases r with
        | cons h t =>
          rw [List.all_cons, Bool.and_eq_true] at p
          exact .cons (ih _ _ p.1 h) (ih2 _ p.2 t)
    intro d v p r
    cases r with
    | non => exact .non
    | bl b => exact .bl b
    | int i => exact .int i
    | str x => exact .str x
    | tup h z q => exact .tup (SqT.of (l _ _ h)) (all _ _ p q)
    | lst h z q => exact .lst (SqL.of (l _ _ h)) (all _ _ p q)
    | _ => simp [plainAt] at p
theorem dp_ro {K : PySem.W.Frag} {F H : Hp} (l : Le F H) {n : Nat} {d : D} {v : V} (p : plainAt n d = true) (r : RO C F H v d) : Dp K H v d.py := by
  rcases r with r | ⟨a, rfl, _, _, t⟩
  · exact dp_of l n d v p r
  · cases t with
    | @lst vs ds h z q =>
      cases n with
      | zero => simp [plainAt] at p
      | succ n =>
        have all : ∀ (ds : List D) (vs : List V), ds.all (plainAt n) = true → Reps C F vs ds → DpAll K H vs (pys ds) := by
          intro ds
          induction ds with
          | nil => intro vs _ r; cases r; exact .nil
          | cons d ds ih2 =>
            intro vs p r
            cases r with
            | cons h t =>
              rw [List.all_cons, Bool.and_eq_true] at p
              exact .cons (dp_of l n _ _ p.1 h) (ih2 _ p.2 t)
        exact .lst (SqL.of h) (all _ _ p q)
    | dk h q => cases n <;> simp [plainAt] at p
    | dt h q => cases n <;> simp [plainAt] at p
theorem lay_of : ∀ (n : Nat) (d : D), plainAt n d = true → d.py.canLay0 = true ∧ d.py.depth ≤ n := by
  intro n
  induction n with
  | zero =>
    intro d p
    cases d <;> (try (simp [plainAt] at p; done)) <;> simp_all [D.py, PyData.canLay0, PyData.depth, plainAt]
  | succ n ih =>
    have all : ∀ ds : List D, ds.all (plainAt n) = true → PyData.canLayAll0 (pys ds) = true ∧ PyData.depthAll (pys ds) ≤ n := by
      intro ds
      induction ds with
      | nil => intro _; simp [pys, PyData.canLayAll0, PyData.depthAll]
      | cons d ds ih2 =>
        intro p
        rw [List.all_cons, Bool.and_eq_true] at p
        obtain ⟨a1, a2⟩ := ih _ p.1
        obtain ⟨b1, b2⟩ := ih2 p.2
        simp only [pys, PyData.canLayAll0, PyData.depthAll, a1, b1, Bool.and_self, true_and]
        omega
    intro d p
    cases d with
    | tup ds =>
      obtain ⟨a, b⟩ := all ds p
      simp only [D.py, PyData.canLay0, PyData.depth, a, true_and]
      omega
    | lst ds =>
      obtain ⟨a, b⟩ := all ds p
      simp only [D.py, PyData.canLay0, PyData.depth, a, true_and]
      omega
    | _ => first | (simp [plainAt] at p; done) | simp_all [D.py, PyData.canLay0, PyData.depth, plainAt]
theorem shaped_of {n : Nat} (hn : n ≤ 64) {d : D} (p : plainAt n d = true) : SeqAt.shaped d.py = true := by
  obtain ⟨a, b⟩ := lay_of n d p
  unfold SeqAt.shaped
  rw [a, Bool.true_and]
  exact decide_eq_true (by omega)
theorem eqv_at : ∀ (n : Nat) (x y : D), plainAt n x = true → plainAt n y = true → PyData.eqv x.py y.py = eqAt n x y := by
  intro n
  induction n with
  | zero =>
    intro x y p q
    cases x <;> (try (simp [plainAt] at p; done)) <;> cases y <;> (try (simp [plainAt] at q; done)) <;> simp [D.py, PyData.eqv, eqAt]
  | succ n ih =>
    have all : ∀ xs ys : List D, xs.all (plainAt n) = true → ys.all (plainAt n) = true → PyData.eqvAll (pys xs) (pys ys) = all2 (eqAt n) xs ys := by
      intro xs
      induction xs with
      | nil => intro ys _ _; cases ys <;> simp [pys, PyData.eqvAll, all2]
      | cons x xs ih2 =>
        intro ys p q
        cases ys with
        | nil => simp [pys, PyData.eqvAll, all2]
        | cons y ys =>
          rw [List.all_cons, Bool.and_eq_true] at p q
          simp only [pys, PyData.eqvAll, all2, ih _ _ p.1 q.1, ih2 _ p.2 q.2]
    intro x y p q
    cases x <;> (try (simp [plainAt] at p; done)) <;> cases y <;> (try (simp [plainAt] at q; done)) <;> first
      | (simp [D.py, PyData.eqv, eqAt]; done)
      | (simp only [D.py, PyData.eqv, eqAt]; exact all _ _ p q)
theorem deep64 : DEEP ≤ 64 := by decide
theorem ok_eq (hu : X.A.units + 64 < cLine) : OpOk X C (compareOp .Eq) oEq := by
  refine ⟨_, op_eqD hu, fun x y dx dy F H b Q l i rx ry e k => ?_⟩
  unfold oEq at e
  split at e
  · rename_i hp
    rw [Bool.and_eq_true] at hp
    cases e
    refine ⟨_, _, dp_ro l hp.1 rx, dp_ro l hp.2 ry, shaped_of deep64 hp.1, shaped_of deep64 hp.2, ?_⟩
    rw [eqv_at _ _ _ hp.1 hp.2]
    exact q_here l k rfl (.bl _)
  · cases e
theorem ok_ne (hu : X.A.units + 64 < cLine) : OpOk X C (compareOp .NotEq) oNe := by
  refine ⟨_, op_neD hu, fun x y dx dy F H b Q l i rx ry e k => ?_⟩
  unfold oNe at e
  split at e
  · rename_i hp
    rw [Bool.and_eq_true] at hp
    cases e
    refine ⟨_, _, dp_ro l hp.1 rx, dp_ro l hp.2 ry, shaped_of deep64 hp.1, shaped_of deep64 hp.2, ?_⟩
    rw [eqv_at _ _ _ hp.1 hp.2]
    exact q_here l k rfl (.bl _)
  · cases e
end
end Sx

set_option Elab.async false
set_option linter.all false
set_option maxRecDepth 100000
set_option maxHeartbeats 4000000
/-! Sx5: built-in functions, subscripts. -/
namespace Sx
open PySem PySem.Spec PyProof.Rows L2
section
variable {X : Cx} {C : Cs} {W : WX} {pos : Pos}

theorem rep_non {F : Hp} {x : V} {d : D} (r : Rep C F x d) : x = .non ↔ d = .non := by
  cases r <;> simp
theorem ro_isN {F H : Hp} {x : V} {d : D} (r : RO C F H x d) : decide (x = .non) = (match d with | .non => true | _ => false) := by
  rcases r with r | ⟨a, rfl, _, _, t⟩
  · cases r <;> simp
  · cases t <;> simp
theorem ok_isN : OpOk X C (compareOp .Is) oIsB := by
  refine ⟨_, op_isN, fun x y dx dy F H b Q l i rx ry e k => ?_⟩
  unfold oIsB at e
  split at e
  · refine ⟨ro_non ry, ?_⟩
    rw [ro_isN rx]
    cases dx <;> (simp only [oIsN] at e; cases e; exact q_here l k rfl (.bl _))
  · cases e
theorem ok_notN : OpOk X C (compareOp .IsNot) oNotB := by
  refine ⟨_, op_notN, fun x y dx dy F H b Q l i rx ry e k => ?_⟩
  unfold oNotB at e
  split at e
  · refine ⟨ro_non ry, ?_⟩
    rw [ro_isN rx]
    cases dx <;> (simp only [oNotN] at e; cases e; exact q_here l k rfl (.bl _))
  · cases e

/-! ### two ways to one operator -/
theorem pe_two {e : Expr} {t1 t2 : TE} (h1 : PE X e t1) (h2 : PE X e t2) : PE X e (fun σ H Q => t1 σ H Q ∨ t2 σ H Q) := ⟨fun pins s σ H Q I q => q.elim (h1.run pins s σ H Q I) (h2.run pins s σ H Q I)⟩
theorem pt_two {e : Expr} {t1 t2 : TT} (h1 : PT X e t1) (h2 : PT X e t2) : PT X e (fun σ H Q => t1 σ H Q ∨ t2 σ H Q) := ⟨fun pins s σ H Q I q => q.elim (h1.run pins s σ H Q I) (h2.run pins s σ H Q I)⟩
theorem bin_split {o o1 o2 : Op2} {f h : E} {ρ : Ro} {g : G} {K : B → G → Prop} {Xc : Ex → G → Prop} (hs : ∀ x y b, o x y = some b → o1 x y = some b ∨ o2 x y = some b) (t : onOk (eBin o f h ρ g) K Xc) : onOk (eBin o1 f h ρ g) K Xc ∨ onOk (eBin o2 f h ρ g) K Xc := by
  unfold eBin at t ⊢
  simp only [onOk_bind] at t ⊢
  cases q : f ρ g with
  | er x g1 => rw [q] at t; exact .inl t
  | no => rw [q] at t; exact t.elim
  | ok b g1 =>
    rw [q] at t
    have t : onOk (h ρ g1) (fun a g => onOk (match o b.d a.d with | some b => R.ok b g | none => R.no) K Xc) Xc := t
    show onOk (h ρ g1) (fun a g => onOk (match o1 b.d a.d with | some b => R.ok b g | none => R.no) K Xc) Xc ∨ onOk (h ρ g1) (fun a g => onOk (match o2 b.d a.d with | some b => R.ok b g | none => R.no) K Xc) Xc
    cases q2 : h ρ g1 with
    | er x g2 => rw [q2] at t; exact .inl t
    | no => rw [q2] at t; exact t.elim
    | ok c g2 =>
      rw [q2] at t
      have t : onOk (match o b.d c.d with | some b => R.ok b g2 | none => R.no) K Xc := t
      show onOk (match o1 b.d c.d with | some b => R.ok b g2 | none => R.no) K Xc ∨ onOk (match o2 b.d c.d with | some b => R.ok b g2 | none => R.no) K Xc
      cases q3 : o b.d c.d with
      | none => rw [q3] at t; exact t.elim
      | some d =>
        rw [q3] at t
        rcases hs _ _ _ q3 with e | e
        · rw [e]; exact .inl t
        · rw [e]; exact .inr t
theorem te_split {o o1 o2 : Op2} {f h : E} (hs : ∀ x y b, o x y = some b → o1 x y = some b ∨ o2 x y = some b) {σ : L2.St} {H : Hp} {Q : VK} (t : tE C W (eBin o f h) σ H Q) : tE C W (eBin o1 f h) σ H Q ∨ tE C W (eBin o2 f h) σ H Q := by
  obtain ⟨F0, H0, F, ρ, g, rel, t⟩ := t
  rcases bin_split hs t with t | t
  · exact .inl ⟨F0, H0, F, ρ, g, rel, t⟩
  · exact .inr ⟨F0, H0, F, ρ, g, rel, t⟩

/-! ### what a dict holds -/
theorem valV_k {F : Hp} {i : Int} : ∀ {vs : List (Key × V)} {ds : List (Int × D)}, RepK C F vs ds → match lookI i ds with | some d => ∃ v, valV vs (.inl i) = some v ∧ Rep C F v d | none => valV vs (.inl i) = none
  | _, _, .nil => rfl
  | _, _, .cons (k := k) (v := v) (vs := vs) (d := d) (ds := ds) r t => by
    have ih := valV_k (i := i) t
    unfold lookI
    by_cases e : k = i
    · subst e
      rw [if_pos rfl]
      exact ⟨v, valV_pos rfl, r⟩
    · rw [if_neg e]
      have : valV ((Sum.inl k, v) :: vs) (.inl i : Key) = valV vs (.inl i) := by
        unfold valV
        rw [List.find?_cons]
        have : decide ((Sum.inl k : Key) = Sum.inl i) = false := decide_eq_false (fun z => e (Sum.inl.inj z))
        simp only [this]
      rw [this]
      exact ih
theorem inl_inj {a b : List Int} (h : a.map (Sum.inl : Int → Key) = b.map Sum.inl) : a = b := by
  induction a generalizing b with
  | nil => cases b with
    | nil => rfl
    | cons _ _ => cases h
  | cons x a ih => cases b with
    | nil => cases h
    | cons y b =>
      simp only [List.map_cons, List.cons.injEq] at h
      rw [Sum.inl.inj h.1, ih h.2]
theorem valV_t {F : Hp} {i : List Int} : ∀ {vs : List (List Key × V)} {ds : List (List Int × D)}, RepT C F vs ds → match lookT i ds with | some d => ∃ v, valV vs (i.map Sum.inl) = some v ∧ Rep C F v d | none => valV vs (i.map Sum.inl) = none
  | _, _, .nil => rfl
  | _, _, .cons (k := k) (v := v) (vs := vs) (d := d) (ds := ds) r t => by
    have ih := valV_t (i := i) t
    unfold lookT
    by_cases e : k = i
    · subst e
      rw [if_pos rfl]
      exact ⟨v, valV_pos rfl, r⟩
    · rw [if_neg e]
      have : valV ((k.map Sum.inl, v) :: vs) (i.map Sum.inl : List Key) = valV vs (i.map Sum.inl) := by
        unfold valV
        rw [List.find?_cons]
        have : decide ((k.map Sum.inl : List Key) = i.map Sum.inl) = false := decide_eq_false (fun z => e (inl_inj z))
        simp only [this]
      rw [this]
      exact ih
theorem ints_of {F : Hp} : ∀ {vs : List V} {ds : List D} {is : List Int}, Reps C F vs ds → ints? ds = some is → vs = is.map V.int
  | _, _, _, .nil, e => by cases e; rfl
  | _, _, _, .cons (d := d) r t, e => by
    cases d with
    | int i =>
      unfold ints? at e
      split at e
      · rename_i is q
        cases e
        cases r
        rw [ints_of t q]; rfl
      · cases e
    | _ => simp [ints?] at e
theorem map_kV (is : List Int) : is.map V.int = (is.map (Sum.inl : Int → Key)).map kV := by
  rw [List.map_map]; rfl

def oInL : Op2 := fun x y => match y with | .lst _ => oIn x y | .tup _ => oIn x y | _ => none
def oInD : Op2 := fun x y => match y with | .dk _ => oIn x y | .dt _ => oIn x y | _ => none
def oNotInL : Op2 := fun x y => match y with | .lst _ => oNotIn x y | .tup _ => oNotIn x y | _ => none
def oNotInD : Op2 := fun x y => match y with | .dk _ => oNotIn x y | .dt _ => oNotIn x y | _ => none
theorem in_split (x y : D) (b : B) (h : oIn x y = some b) : oInL x y = some b ∨ oInD x y = some b := by
  cases y <;> first | exact .inl h | exact .inr h | (simp [oIn, isIn] at h)
theorem notIn_split (x y : D) (b : B) (h : oNotIn x y = some b) : oNotInL x y = some b ∨ oNotInD x y = some b := by
  cases y <;> first | exact .inl h | exact .inr h | (simp [oNotIn, isIn] at h)
theorem pys_any {n : Nat} {x : D} (px : plainAt n x = true) : ∀ ds : List D, ds.all (plainAt n) = true → (pys ds).any (fun z => PyData.eqv z x.py) = ds.any fun z => eqAt n z x
  | [], _ => rfl
  | d :: ds, h => by
    rw [List.all_cons, Bool.and_eq_true] at h
    simp only [pys, List.any_cons, eqv_at n _ _ h.1 px, pys_any px ds h.2]
theorem plain_up : ∀ (n : Nat) (d : D), plainAt n d = true → plainAt (n + 1) d = true := by
  intro n
  induction n with
  | zero => intro d h; cases d <;> first | (simp [plainAt] at h; done) | simpa [plainAt] using h
  | succ n ih =>
    intro d h
    cases d <;> first | (simp [plainAt] at h; done) | (simpa [plainAt] using h) | skip
    all_goals
      simp only [plainAt, List.all_eq_true] at h ⊢
      exact fun d hd => ih d (h d hd)
theorem eq_up : ∀ (n : Nat) (x y : D), plainAt n x = true → plainAt n y = true → eqAt (n + 1) x y = eqAt n x y := fun n x y px py => by
  rw [← eqv_at n x y px py, ← eqv_at (n + 1) x y (plain_up n x px) (plain_up n y py)]
theorem eq_same (n : Nat) (x y : D) (px : plainAt n x = true) (py : plainAt n y = true) (px' : plainAt (n + 1) x = true) (py' : plainAt (n + 1) y = true) : eqAt (n + 1) x y = eqAt n x y := eq_up n x y px py
theorem isIn_any {x : D} {ds : List D} (px : plainAt DEEP x = true) (py : plainAt DEEP (.lst ds) = true) : (pys ds).any (fun z => PyData.eqv z x.py) = ds.any fun z => eqAt DEEP z x := by
  have h : ds.all (plainAt DEEP) = true := by
    have h0 : ds.all (plainAt (DEEP - 1)) = true := py
    rw [List.all_eq_true] at h0 ⊢
    exact fun d hd => plain_up _ d (h0 d hd)
  exact pys_any px ds h
/-- in, not in: of a list or a tuple -/
def rInLT (K : PySem.W.Frag) (neg : Bool) : R2 := fun x y H Q => ∃ d ds, Dp K H x d ∧ ((Dp K H y (.list ds) ∧ SeqAt.shaped (.list ds) = true) ∨ (Dp K H y (.tuple ds) ∧ SeqAt.shaped (.tuple ds) = true)) ∧ SeqAt.shaped d = true ∧ Q (.bl (neg ^^ ds.any fun z => PyData.eqv z d)) H
theorem op_inLT (hu : X.A.units + 65 < cLine) : OpR X (compareOp .In) (rInLT X.K false) := by
  intro pins s σ H x y v u Q I rx ry h
  obtain ⟨d, ds, hd, he, sd, q⟩ := h
  rw [Bool.false_xor] at q
  obtain ⟨as, r1⟩ := Dp.reads I d x v hd rx
  rcases he with ⟨he, se⟩ | ⟨he, se⟩
  · obtain ⟨bs, r2⟩ := Dp.reads I (.list ds) y u he ry
    exact SeqAt.in_list_reads r2 r1 (SeqAt.canLay_of_shaped se) (SeqAt.canLay_of_shaped sd) (room_in_shaped sd hu) ⟨.bl _, H, I, rfl, q⟩
  · obtain ⟨bs, r2⟩ := Dp.reads I (.tuple ds) y u he ry
    exact SeqAt.in_tuple_reads r2 r1 (SeqAt.canLay_of_shaped se) (SeqAt.canLay_of_shaped sd) (room_in_shaped sd hu) ⟨.bl _, H, I, rfl, q⟩
theorem op_notInLT (hu : X.A.units + 65 < cLine) : OpR X (compareOp .NotIn) (rInLT X.K true) := by
  intro pins s σ H x y v u Q I rx ry h
  obtain ⟨d, ds, hd, he, sd, q⟩ := h
  rw [Bool.true_xor] at q
  obtain ⟨as, r1⟩ := Dp.reads I d x v hd rx
  rcases he with ⟨he, se⟩ | ⟨he, se⟩
  · obtain ⟨bs, r2⟩ := Dp.reads I (.list ds) y u he ry
    exact SeqAt.notIn_list_reads r2 r1 (SeqAt.canLay_of_shaped se) (SeqAt.canLay_of_shaped sd) (room_in_shaped sd hu) ⟨.bl _, H, I, rfl, q⟩
  · obtain ⟨bs, r2⟩ := Dp.reads I (.tuple ds) y u he ry
    exact SeqAt.notIn_tuple_reads r2 r1 (SeqAt.canLay_of_shaped se) (SeqAt.canLay_of_shaped sd) (room_in_shaped sd hu) ⟨.bl _, H, I, rfl, q⟩
theorem ok_inL (hu : X.A.units + 65 < cLine) : OpOk X C (compareOp .In) oInL := by
  refine ⟨_, op_inLT hu, fun x y dx dy F H b Q l i rx ry e k => ?_⟩
  cases dy with
  | lst ds =>
    simp only [oInL, oIn, isIn] at e
    split at e
    · rename_i bb hb
      split at hb
      · rename_i hp
        rw [Bool.and_eq_true] at hp
        cases hb
        cases e
        refine ⟨_, pys ds, dp_ro l hp.1 rx, .inl ⟨dp_ro l hp.2 ry, shaped_of deep64 hp.2⟩, shaped_of deep64 hp.1, ?_⟩
        rw [isIn_any (ds := ds) hp.1 hp.2, Bool.false_xor]
        exact q_here l k rfl (.bl _)
      · cases hb
    · cases e
  | tup ds =>
    simp only [oInL, oIn, isIn] at e
    split at e
    · rename_i bb hb
      split at hb
      · rename_i hp
        rw [Bool.and_eq_true] at hp
        cases hb
        cases e
        refine ⟨_, pys ds, dp_ro l hp.1 rx, .inr ⟨dp_ro l hp.2 ry, shaped_of deep64 hp.2⟩, shaped_of deep64 hp.1, ?_⟩
        rw [isIn_any (ds := ds) hp.1 hp.2, Bool.false_xor]
        exact q_here l k rfl (.bl _)
      · cases hb
    · cases e
  | _ => simp [oInL] at e
theorem ok_notInL (hu : X.A.units + 65 < cLine) : OpOk X C (compareOp .NotIn) oNotInL := by
  refine ⟨_, op_notInLT hu, fun x y dx dy F H b Q l i rx ry e k => ?_⟩
  cases dy with
  | lst ds =>
    simp only [oNotInL, oNotIn, isIn] at e
    split at e
    · rename_i bb hb
      split at hb
      · rename_i hp
        rw [Bool.and_eq_true] at hp
        cases hb
        cases e
        refine ⟨_, pys ds, dp_ro l hp.1 rx, .inl ⟨dp_ro l hp.2 ry, shaped_of deep64 hp.2⟩, shaped_of deep64 hp.1, ?_⟩
        rw [isIn_any (ds := ds) hp.1 hp.2, Bool.true_xor]
        exact q_here l k rfl (.bl _)
      · cases hb
    · cases e
  | tup ds =>
    simp only [oNotInL, oNotIn, isIn] at e
    split at e
    · rename_i bb hb
      split at hb
      · rename_i hp
        rw [Bool.and_eq_true] at hp
        cases hb
        cases e
        refine ⟨_, pys ds, dp_ro l hp.1 rx, .inr ⟨dp_ro l hp.2 ry, shaped_of deep64 hp.2⟩, shaped_of deep64 hp.1, ?_⟩
        rw [isIn_any (ds := ds) hp.1 hp.2, Bool.true_xor]
        exact q_here l k rfl (.bl _)
      · cases hb
    · cases e
  | _ => simp [oNotInL] at e
/-- what a look-up finds -/
theorem dget_of {F H : Hp} {x y : V} {dx dy : D} (l : Le F H) (rx : RO C F H x dx) (ry : RO C F H y dy) :
    (∀ kvs i, dy = .dk kvs → dx = .int i → ∃ a r, y = .ref a ∧ DGet H a x r ∧ (match lookI i kvs with | some d => ∃ v, r = some v ∧ Rep C F v d | none => r = none)) ∧
    (∀ kvs ks is, dy = .dt kvs → dx = .tup ks → ints? ks = some is → ∃ a r, y = .ref a ∧ DGet H a x r ∧ (match lookT is kvs with | some d => ∃ v, r = some v ∧ Rep C F v d | none => r = none)) := by
  refine ⟨fun kvs i e1 e2 => ?_, fun kvs ks is e1 e2 e3 => ?_⟩
  · subst e1; subst e2
    obtain ⟨a, vs, rfl, ha, ra⟩ := ro_dk l ry
    rw [ro_int rx]
    refine ⟨a, _, rfl, DGet.k (k := .inl i) ha, ?_⟩
    exact valV_k ra
  · subst e1; subst e2
    obtain ⟨a, vs, rfl, ha, ra⟩ := ro_dt l ry
    obtain ⟨c, ws, rfl, fc, hc, _, rc⟩ := ro_tup l rx
    rw [ints_of rc e3, map_kV] at hc
    refine ⟨a, _, rfl, DGet.t ha hc, ?_⟩
    exact valV_t ra
theorem in_dict {f h : E} {σ : L2.St} {H : Hp} {Q : VK} (t : tE C W (eBin oInD f h) σ H Q) : tDIn (tE C W f) (tE C W h) σ H Q := by
  obtain ⟨F0, H0, F, ρ, g, rel, hh⟩ := t
  unfold eBin at hh
  rw [onOk_bind] at hh
  refine ⟨F0, H0, F, ρ, g, rel, onOk_mono hh (fun b g1 h1 v F1 H1 a1 r1 => ?_) fun x g1 h1 => h1⟩
  rw [onOk_bind] at h1
  have rel1 := rel.step a1
  refine ⟨F0, H0, F1, ρ, g1, rel1, onOk_mono h1 (fun c g2 h2 y F2 H2 a2 r2 => ?_) fun x g2 h2 cls d F2 H2 a2 e2 => h2 cls d F2 H2 (a1.trans a2) e2⟩
  have gg := dget_of a2.stp.le (r1.ro.step a2.stp) r2.ro
  cases ec : c.d with
  | dk kvs =>
    rw [ec] at h2
    cases eb : b.d with
    | int i =>
      rw [eb] at h2
      obtain ⟨a, r, rfl, dg, m⟩ := gg.1 kvs i ec eb
      refine ⟨a, r, rfl, dg, ?_⟩
      have h2 := h2 (.bl (lookI i kvs).isSome) F2 H2 (a1.trans a2) (.bl _)
      cases q : lookI i kvs with
      | none => rw [q] at m h2; rw [m]; exact h2
      | some d => rw [q] at m h2; obtain ⟨v, rfl, _⟩ := m; exact h2
    | _ => rw [eb] at h2; exact h2.elim
  | dt kvs =>
    rw [ec] at h2
    cases eb : b.d with
    | tup ks =>
      rw [eb] at h2
      simp only [oInD, oIn, isIn] at h2
      cases e3 : ints? ks with
      | none => rw [e3] at h2; exact h2.elim
      | some is =>
        rw [e3] at h2
        obtain ⟨a, r, rfl, dg, m⟩ := gg.2 kvs ks is ec eb e3
        refine ⟨a, r, rfl, dg, ?_⟩
        have h2 := h2 (.bl (lookT is kvs).isSome) F2 H2 (a1.trans a2) (.bl _)
        cases q : lookT is kvs with
        | none => rw [q] at m h2; rw [m]; exact h2
        | some d => rw [q] at m h2; obtain ⟨v, rfl, _⟩ := m; exact h2
    | _ => rw [eb] at h2; exact h2.elim
  | _ => rw [ec] at h2; exact h2.elim
theorem notIn_dict {f h : E} {σ : L2.St} {H : Hp} {Q : VK} (t : tE C W (eBin oNotInD f h) σ H Q) : tDNotIn (tE C W f) (tE C W h) σ H Q := by
  obtain ⟨F0, H0, F, ρ, g, rel, hh⟩ := t
  unfold eBin at hh
  rw [onOk_bind] at hh
  refine ⟨F0, H0, F, ρ, g, rel, onOk_mono hh (fun b g1 h1 v F1 H1 a1 r1 => ?_) fun x g1 h1 => h1⟩
  rw [onOk_bind] at h1
  have rel1 := rel.step a1
  refine ⟨F0, H0, F1, ρ, g1, rel1, onOk_mono h1 (fun c g2 h2 y F2 H2 a2 r2 => ?_) fun x g2 h2 cls d F2 H2 a2 e2 => h2 cls d F2 H2 (a1.trans a2) e2⟩
  have gg := dget_of a2.stp.le (r1.ro.step a2.stp) r2.ro
  cases ec : c.d with
  | dk kvs =>
    rw [ec] at h2
    cases eb : b.d with
    | int i =>
      rw [eb] at h2
      obtain ⟨a, r, rfl, dg, m⟩ := gg.1 kvs i ec eb
      refine ⟨a, r, rfl, dg, ?_⟩
      have h2 := h2 (.bl (!(lookI i kvs).isSome)) F2 H2 (a1.trans a2) (.bl _)
      cases q : lookI i kvs with
      | none => rw [q] at m h2; rw [m]; exact h2
      | some d => rw [q] at m h2; obtain ⟨v, rfl, _⟩ := m; exact h2
    | _ => rw [eb] at h2; exact h2.elim
  | dt kvs =>
    rw [ec] at h2
    cases eb : b.d with
    | tup ks =>
      rw [eb] at h2
      simp only [oNotInD, oNotIn, isIn] at h2
      cases e3 : ints? ks with
      | none => rw [e3] at h2; exact h2.elim
      | some is =>
        rw [e3] at h2
        obtain ⟨a, r, rfl, dg, m⟩ := gg.2 kvs ks is ec eb e3
        refine ⟨a, r, rfl, dg, ?_⟩
        have h2 := h2 (.bl (!(lookT is kvs).isSome)) F2 H2 (a1.trans a2) (.bl _)
        cases q : lookT is kvs with
        | none => rw [q] at m h2; rw [m]; exact h2
        | some d => rw [q] at m h2; obtain ⟨v, rfl, _⟩ := m; exact h2
    | _ => rw [eb] at h2; exact h2.elim
  | _ => rw [ec] at h2; exact h2.elim
section
variable {a b : Expr} {f h : E}
theorem se_in (hu : X.A.units + 65 < cLine) (ha : SE X C W a f) (hb : SE X C W b h) (hm : behindInMarks .In b = false := by rfl) : SE X C W (.Compare a [.In] [b] pos) (eBin oIn f h) := by
  obtain ⟨r, h1, h2⟩ := ok_inL (C := C) hu
  exact pe_imp (pe_two (pe_cmpR h1 ha hb hm) (pe_cmp (pc_din (by omega) ha hb) hm)) fun σ H Q t => (te_split in_split t).elim (fun t => .inl (two_ops h2 t)) fun t => .inr (in_dict t)
theorem se_notIn (hu : X.A.units + 65 < cLine) (ha : SE X C W a f) (hb : SE X C W b h) (hm : behindInMarks .NotIn b = false := by rfl) : SE X C W (.Compare a [.NotIn] [b] pos) (eBin oNotIn f h) := by
  obtain ⟨r, h1, h2⟩ := ok_notInL (C := C) hu
  exact pe_imp (pe_two (pe_cmpR h1 ha hb hm) (pe_cmp (pc_dnotin (by omega) ha hb) hm)) fun σ H Q t => (te_split notIn_split t).elim (fun t => .inl (two_ops h2 t)) fun t => .inr (notIn_dict t)
theorem sb_in (hu : X.A.units + 65 < cLine) (ha : SE X C W a f) (hb : SE X C W b h) (hm : behindInMarks .In b = false := by rfl) : SB X C W (.Compare a [.In] [b] pos) (eBin oIn f h) := by
  obtain ⟨r, h1, h2⟩ := ok_inL (C := C) hu
  refine pt_imp (pt_two (pt_cmpR h1 ha hb hm) (pt_cmp (pc_din (by omega) ha hb) hm)) fun σ H Q t => ?_
  have t' := test_of (t := fun σ H Q => tOp r (tE C W f) (tE C W h) σ H Q ∨ tDIn (tE C W f) (tE C W h) σ H Q) (fun σ H Q t => (te_split in_split t).elim (fun t => .inl (two_ops h2 t)) fun t => .inr (in_dict t)) t
  exact t'
theorem sb_notIn (hu : X.A.units + 65 < cLine) (ha : SE X C W a f) (hb : SE X C W b h) (hm : behindInMarks .NotIn b = false := by rfl) : SB X C W (.Compare a [.NotIn] [b] pos) (eBin oNotIn f h) := by
  obtain ⟨r, h1, h2⟩ := ok_notInL (C := C) hu
  refine pt_imp (pt_two (pt_cmpR h1 ha hb hm) (pt_cmp (pc_dnotin (by omega) ha hb) hm)) fun σ H Q t => ?_
  have t' := test_of (t := fun σ H Q => tOp r (tE C W f) (tE C W h) σ H Q ∨ tDNotIn (tE C W f) (tE C W h) σ H Q) (fun σ H Q t => (te_split notIn_split t).elim (fun t => .inl (two_ops h2 t)) fun t => .inr (notIn_dict t)) t
  exact t'
end

/-! ### subscripts -/
def oIxS : Op2 := fun x y => match x with | .lst _ => oIx x y | .tup _ => oIx x y | _ => none
def oIxD : Op2 := fun x y => match x with | .dk _ => oIx x y | .dt _ => oIx x y | _ => none
theorem ix_split (x y : D) (b : B) (h : oIx x y = some b) : oIxS x y = some b ∨ oIxD x y = some b := by
  cases x <;> first | exact .inl h | exact .inr h | (simp [oIx] at h)
theorem atI_of {F : Hp} {vs : List V} {ds : List D} {i : Int} {d : D} (r : Reps C F vs ds) (e : atD ds i = some d) : ∃ v, atI vs i = some v ∧ Rep C F v d := by
  unfold atD at e
  have hl := r.length
  unfold atI
  have : ixN vs.length i = ixN' ds.length i := by rw [hl]; rfl
  rw [this]
  cases q : ixN' ds.length i with
  | none => rw [q] at e; cases e
  | some j =>
    rw [q] at e
    obtain ⟨v, h1, h2⟩ := r.get e
    exact ⟨v, h1, h2⟩
theorem ix_seq_ok : ∃ r : R2, IxR X r ∧ ∀ x y dx dy F H b Q, Le F H → (∀ a, InSt C a → H a ≠ none) → RO C F H x dx → RO C F H y dy → oIxS dx dy = some b → (∀ v F' H', Quiet C F H F' H' → RB C H F' H' v b → Q v H') → r x y H Q := by
  refine ⟨_, ix_list.or ix_tup, fun x y dx dy F H b Q l i rx ry e k => ?_⟩
  cases dx <;> try (simp [oIxS] at e; done)
  · rename_i ds
    cases dy <;> try (simp [oIxS, oIx] at e; done)
    rename_i j
    simp only [oIxS, oIx] at e
    split at e
    · rename_i d q
      cases e
      obtain ⟨a, vs, rfl, fa, ha, z, r⟩ := ro_tup l rx
      obtain ⟨v, h1, h2⟩ := atI_of r q
      rw [ro_int ry]
      exact .inr ⟨a, vs, j, v, rfl, rfl, SqT.of ha, h1, q_here l k rfl h2⟩
    · cases e
  · rename_i ds
    cases dy <;> try (simp [oIxS, oIx] at e; done)
    rename_i j
    simp only [oIxS, oIx] at e
    split at e
    · rename_i d q
      cases e
      obtain ⟨a, vs, rfl, ha, z, r⟩ := ro_lst l rx
      obtain ⟨v, h1, h2⟩ := atI_of r q
      rw [ro_int ry]
      exact .inl ⟨a, vs, j, v, rfl, rfl, SqL.of ha, h1, q_here l k rfl h2⟩
    · cases e
theorem ix_dict {f h : E} {σ : L2.St} {H : Hp} {Q : VK} (t : tE C W (eBin oIxD f h) σ H Q) : tDGet (tE C W f) (tE C W h) σ H Q := by
  obtain ⟨F0, H0, F, ρ, g, rel, hh⟩ := t
  unfold eBin at hh
  rw [onOk_bind] at hh
  refine ⟨F0, H0, F, ρ, g, rel, onOk_mono hh (fun b g1 h1 v F1 H1 a1 r1 => ?_) fun x g1 h1 => h1⟩
  rw [onOk_bind] at h1
  have rel1 := rel.step a1
  refine ⟨F0, H0, F1, ρ, g1, rel1, onOk_mono h1 (fun c g2 h2 y F2 H2 a2 r2 => ?_) fun x g2 h2 cls d F2 H2 a2 e2 => h2 cls d F2 H2 (a1.trans a2) e2⟩
  have gg := dget_of a2.stp.le r2.ro (r1.ro.step a2.stp)
  cases ec : b.d with
  | dk kvs =>
    rw [ec] at h2
    cases eb : c.d with
    | int i =>
      rw [eb] at h2
      simp only [oIxD, oIx] at h2
      obtain ⟨a, r, rfl, dg, m⟩ := gg.1 kvs i ec eb
      cases q : lookI i kvs with
      | none => rw [q] at h2; exact h2.elim
      | some d =>
        rw [q] at m h2
        obtain ⟨v, rfl, rv⟩ := m
        exact ⟨a, v, rfl, dg, h2 v F2 H2 (a1.trans a2) rv⟩
    | _ => rw [eb] at h2; exact h2.elim
  | dt kvs =>
    rw [ec] at h2
    cases eb : c.d with
    | tup ks =>
      rw [eb] at h2
      simp only [oIxD, oIx] at h2
      cases e3 : ints? ks with
      | none => rw [e3] at h2; exact h2.elim
      | some is =>
        rw [e3] at h2
        obtain ⟨a, r, rfl, dg, m⟩ := gg.2 kvs ks is ec eb e3
        cases q : lookT is kvs with
        | none => simp only [q] at h2; exact h2.elim
        | some d =>
          rw [q] at m
          simp only [q] at h2
          obtain ⟨v, rfl, rv⟩ := m
          exact ⟨a, v, rfl, dg, h2 v F2 H2 (a1.trans a2) rv⟩
    | _ => rw [eb] at h2; exact h2.elim
  | _ => rw [ec] at h2; exact h2.elim
theorem se_ix {a b : Expr} {f h : E} (hu : X.A.units + 65 < cLine) (ha : SE X C W a f) (hb : SE X C W b h) (hs : PlainIx b := by exact fun _ _ => rfl) : SE X C W (.Subscript a b pos) (eBin oIx f h) := by
  obtain ⟨r, h1, h2⟩ := ix_seq_ok (X := X) (C := C)
  exact pe_imp (pe_two (pe_ix h1 ha hb hs) (pe_dget (by omega) ha hb hs)) fun σ H Q t => (te_split ix_split t).elim (fun t => .inl (two_ops h2 t)) fun t => .inr (ix_dict t)
/-- a part of a slice -/
abbrev SO (X : Cx) (C : Cs) (W : WX) (e : Option Expr) (f : Option E) : Prop := ∃ t : L2.St → Hp → (Option Int → Hp → Prop) → Prop, PO X e t ∧ ∀ σ H (Q : Option Int → Hp → Prop) F0 H0 F ρ g, Rel C F0 H0 F ρ g σ H →
  onOk (ePart f ρ g) (fun i g' => ∀ F' H', After C F H g' F' H' → Q i H') (fun x g' => ∀ cls d F' H', After C F H g' F' H' → ExR C F' x cls d → W cls d σ H') → t σ H Q
theorem so_none : SO X C W none none := ⟨_, po_none, fun σ H Q F0 H0 F ρ g rel h => h F H rel.after⟩
theorem so_some {e : Expr} {f : E} (he : SE X C W e f) : SO X C W (some e) (some f) := by
  refine ⟨_, po_some he, fun σ H Q F0 H0 F ρ g rel h => ?_⟩
  unfold ePart at h
  rw [onOk_bind] at h
  refine ⟨F0, H0, F, ρ, g, rel, onOk_mono h (fun b g1 h1 v F1 H1 a1 r1 => ?_) fun x g1 h1 => h1⟩
  split at h1
  · rename_i i e
    have r := r1.ro
    rw [e] at r
    exact ⟨i, ro_int r, h1 F1 H1 a1⟩
  · exact h1.elim
theorem cut_same {F : Hp} {vs : List V} {ds : List D} (r : Reps C F vs ds) (lo hi : Option Int) : Reps C F (cutV vs lo hi) (cutD ds lo hi) := by
  have e : ∀ n d o, HT.sIx n d o = cutIx n d o := fun n d o => by cases o <;> rfl
  unfold cutV cutD
  rw [e, e, r.length]
  exact (r.drop _).take _
theorem se_slice {a : Expr} {lo hi : Option Expr} {f : E} {fl fh : Option E} {p2 : Pos} (ha : SE X C W a f) (hl : SO X C W lo fl) (hh : SO X C W hi fh) : SE X C W (.Subscript a (.Slice lo hi none p2) pos) (eSlice f fl fh) := by
  obtain ⟨tl, hl1, hl2⟩ := hl
  obtain ⟨th, hh1, hh2⟩ := hh
  have slOr : SlR X (fun x lo hi H Q => rSlL X.K x lo hi H Q ∨ rSlA X.K x lo hi H Q) := sl_list.or sl_tupA
  refine pe_imp (pe_slice slOr ha hl1 hh1) ?_
  rintro σ H Q ⟨F0, H0, F, ρ, g, rel, h⟩
  unfold eSlice at h
  rw [onOk_bind] at h
  refine ⟨F0, H0, F, ρ, g, rel, onOk_mono h (fun b g1 h1 v F1 H1 a1 r1 => ?_) fun x g1 h1 => h1⟩
  rw [onOk_bind] at h1
  have rel1 := rel.step a1
  refine hl2 _ _ _ F0 H0 F1 ρ g1 rel1 (onOk_mono h1 (fun lo g2 h2 F2 H2 a2 => ?_) fun x g2 h2 cls d F2 H2 a2 e2 => h2 cls d F2 H2 (a1.trans a2) e2)
  rw [onOk_bind] at h2
  have rel2 := rel1.step a2
  refine hh2 _ _ _ F0 H0 F2 ρ g2 rel2 (onOk_mono h2 (fun hi g3 h3 F3 H3 a3 => ?_) fun x g3 h3 cls d F3 H3 a3 e3 => h3 cls d F3 H3 ((a1.trans a2).trans a3) e3)
  have rel3 := rel2.step a3
  have ro := (r1.ro.step a2.stp).step a3.stp
  have aa := (a1.trans a2).trans a3
  split at h3
  · rename_i ds e
    rw [e] at ro
    obtain ⟨p, vs, rfl, hp, z, r⟩ := ro_lst a3.stp.le ro
    refine .inl ⟨p, vs, rfl, SqL.of hp, fun q hq => ?_⟩
    have rr := cut_same r lo hi
    refine q_lst (Q := Q) a3.stp.le rel3.inst (fun u F' H' qq rb => h3 u F' H' (aa.quiet qq) (rb.early aa)) hq (Nat.le_trans (cutV_length _ _ _) z) rr
  · rename_i ds e
    rw [e] at ro
    obtain ⟨p, vs, rfl, fp, hp, z, r⟩ := ro_tup a3.stp.le ro
    have rr := cut_same r lo hi
    refine .inr ⟨p, vs, rfl, SqT.of hp, fun whole => ?_, fun _ q hq => ?_⟩
    · have e2 : cutV vs lo hi = vs := by
        unfold cutV
        rw [whole.1, whole.2]
        simp
      rw [e2] at rr
      exact h3 (.ref p) F3 H3 aa (.tup fp z rr)
    · exact q_tup (Q := Q) a3.stp.le (fun u F' H' qq rb => h3 u F' H' (aa.quiet qq) (rb.early aa)) hq (Nat.le_trans (cutV_length _ _ _) z) rr
  · exact h3.elim

/-! ### one operand -/
def OpOk1 (X : Cx) (C : Cs) (py : Value → Sem Value) (o : Op1) : Prop := ∃ r : V → Hp → VK → Prop, UnR X py r ∧ ∀ x dx F H b Q, Le F H → (∀ a, InSt C a → H a ≠ none) → RO C F H x dx → o dx = some b →
  (∀ v F' H', Quiet C F H F' H' → RB C H F' H' v b → Q v H') → r x H Q
theorem one_op {o : Op1} {f : E} {r : V → Hp → VK → Prop} {σ : L2.St} {H : Hp} {Q : VK}
    (hr : ∀ x dx F H b Q, Le F H → (∀ a, InSt C a → H a ≠ none) → RO C F H x dx → o dx = some b → (∀ v F' H', Quiet C F H F' H' → RB C H F' H' v b → Q v H') → r x H Q)
    (t : tE C W (eUn o f) σ H Q) : tE C W f σ H fun x H1 => r x H1 Q := by
  obtain ⟨F0, H0, F, ρ, g, rel, hh⟩ := t
  unfold eUn at hh
  rw [onOk_bind] at hh
  refine ⟨F0, H0, F, ρ, g, rel, onOk_mono hh (fun b g1 h1 v F1 H1 a1 r1 => ?_) fun x g1 h1 => h1⟩
  split at h1
  · rename_i bb e
    exact hr v _ F1 H1 bb Q a1.stp.le (rel.step a1).inst r1.ro e fun u F2 H2 q rb => h1 u F2 H2 (a1.quiet q) (rb.early a1)
  · exact h1.elim
theorem ok_neg : OpOk1 X C (unaryOp .USub) oNeg := by
  refine ⟨_, un_neg, fun x dx F H b Q l i rx e k => ?_⟩
  unfold oNeg at e
  split at e
  · cases e
    rw [ro_int rx]
    exact ⟨_, rfl, q_here l k rfl (.int _)⟩
  · cases e
theorem se_un {op : UnaryOp} {o : Op1} {a : Expr} {f : E} (ho : OpOk1 X C (unaryOp op) o) (ha : SE X C W a f) : SE X C W (.UnaryOp op a pos) (eUn o f) := by
  obtain ⟨r, h1, h2⟩ := ho
  exact pe_imp (pe_un h1 ha) fun σ H Q t => one_op h2 t
theorem se_neg {a : Expr} {f : E} (ha : SE X C W a f) : SE X C W (.UnaryOp .USub a pos) (eUn oNeg f) := se_un ok_neg ha
theorem se_rev {e : Expr} {f : E} {k : Nat} {p1 p2 p3 : Pos} (he : SE X C W e f) : SE X C W (.Subscript e (.Slice none none (some (.UnaryOp .USub (.Constant (.int 1) k p1) p2)) p3) pos) (eUn (fun d => match d with | .lst _ => oRevS d | _ => none) f) := by
  refine pe_imp (pe_revL he) fun σ H Q t => ?_
  refine one_op (r := fun x H1 Q => ∃ a xs, x = .ref a ∧ SqL X.K H1 a xs ∧ ∀ p, H1 p = none → Q (.ref p) (upd H1 p (.lst xs.reverse))) (fun x dx F H b Q l i rx e k => ?_) t
  split at e
  · cases e
    obtain ⟨a, vs, rfl, ha, z, r⟩ := ro_lst l rx
    exact ⟨a, vs, rfl, SqL.of ha, fun p hp => q_lst l i k hp (by rw [List.length_reverse]; exact z) r.reverse⟩
  · cases e
end
end Sx

set_option Elab.async false
set_option linter.all false
set_option maxRecDepth 100000
set_option maxHeartbeats 4000000
/-! Sx6: built-in functions called, own defs called and made. -/
namespace Sx
open PySem PySem.Spec PyProof.Rows L2
section
variable {X : Cx} {C : Cs} {W : WX} {pos : Pos}
def CallOk1 (X : Cx) (C : Cs) (f : Value) (o : Op1) : Prop := ∃ r : List V → Hp → VK → Prop, CallR X f r ∧ ∀ x dx F H b Q, Le F H → (∀ a, InSt C a → H a ≠ none) → RO C F H x dx → o dx = some b →
  (∀ v F' H', Quiet C F H F' H' → RB C H F' H' v b → Q v H') → r [x] H Q
def CallOk2 (X : Cx) (C : Cs) (f : Value) (o : Op2) : Prop := ∃ r : List V → Hp → VK → Prop, CallR X f r ∧ ∀ x y dx dy F H b Q, Le F H → (∀ a, InSt C a → H a ≠ none) → RO C F H x dx → RO C F H y dy → o dx dy = some b →
  (∀ v F' H', Quiet C F H F' H' → RB C H F' H' v b → Q v H') → r [x, y] H Q
section
variable {x : Str} {p : Pos} {e e2 : Expr} {f h : E} {id T : String} {o : Op1} {o2 : Op2}
theorem se_b1 (ho : CallOk1 X C (.builtin id) o) (hg : Gl X x) (hm : X.mg x = none) (hv : bootBuiltins x = some (.builtin id)) (ha : SE X C W e f) (hn : x ≠ "__name__" := by decide) (hdb : (x == ("__debug__" : Str)) = false := by decide)
    (he : starEach [e] X.env = (false, eval e X.env) :: starEach [] X.env := by rfl) (hpl : (backTo pos (starEach [] X.env)).any (·.1) = false := by rfl) : SE X C W (.Call (.Name x p) [e] [] pos) (eUn o f) := by
  obtain ⟨r, h1, h2⟩ := ho
  exact pe_imp (pe_callB h1 hg hm hv (pa_cons ha pa_nil he) hn hdb he hpl) fun σ H Q t => one_op (r := fun x => r [x]) h2 t
theorem se_t1 (ho : CallOk1 X C (.type T) o) (hg : Gl X x) (hm : X.mg x = none) (hv : bootBuiltins x = some (.type T)) (ha : SE X C W e f) (hn : x ≠ "__name__" := by decide) (hdb : (x == ("__debug__" : Str)) = false := by decide)
    (he : starEach [e] X.env = (false, eval e X.env) :: starEach [] X.env := by rfl) (hpl : (backTo pos (starEach [] X.env)).any (·.1) = false := by rfl) : SE X C W (.Call (.Name x p) [e] [] pos) (eUn o f) := by
  obtain ⟨r, h1, h2⟩ := ho
  exact pe_imp (pe_callTy h1 hg hm hv (pa_cons ha pa_nil he) hn hdb he hpl) fun σ H Q t => one_op (r := fun x => r [x]) h2 t
theorem se_b2 (ho : CallOk2 X C (.builtin id) o2) (hg : Gl X x) (hm : X.mg x = none) (hv : bootBuiltins x = some (.builtin id)) (ha : SE X C W e f) (hb : SE X C W e2 h) (hn : x ≠ "__name__" := by decide) (hdb : (x == ("__debug__" : Str)) = false := by decide)
    (he : starEach [e, e2] X.env = (false, eval e X.env) :: starEach [e2] X.env := by rfl) (he2 : starEach [e2] X.env = (false, eval e2 X.env) :: starEach [] X.env := by rfl) (hpl : (backTo pos (starEach [e2] X.env)).any (·.1) = false := by rfl) : SE X C W (.Call (.Name x p) [e, e2] [] pos) (eBin o2 f h) := by
  obtain ⟨r, h1, h2⟩ := ho
  exact pe_imp (pe_callB h1 hg hm hv (pa_cons ha (pa_cons hb pa_nil he2) he) hn hdb he hpl) fun σ H Q t => two_ops (r := fun x y => r [x, y]) h2 t
theorem se_g2 (ho : CallOk2 X C (.builtin id) o2) (hg : Gl X x) (hm : X.mg x = some (.builtin id)) (ha : SE X C W e f) (hb : SE X C W e2 h) (hdb : (x == ("__debug__" : Str)) = false := by decide)
    (he : starEach [e, e2] X.env = (false, eval e X.env) :: starEach [e2] X.env := by rfl) (he2 : starEach [e2] X.env = (false, eval e2 X.env) :: starEach [] X.env := by rfl) (hpl : (backTo pos (starEach [e2] X.env)).any (·.1) = false := by rfl) : SE X C W (.Call (.Name x p) [e, e2] [] pos) (eBin o2 f h) := by
  obtain ⟨r, h1, h2⟩ := ho
  exact pe_imp (pe_callBfun h1 hg hm (pa_cons ha (pa_cons hb pa_nil he2) he) hdb he hpl) fun σ H Q t => two_ops (r := fun x y => r [x, y]) h2 t
end
theorem repK_len {F : Hp} : ∀ {vs : List (Key × V)} {ds : List (Int × D)}, RepK C F vs ds → vs.length = ds.length
  | _, _, .nil => rfl
  | _, _, .cons _ r => by simp [repK_len r]
theorem repT_len {F : Hp} : ∀ {vs : List (List Key × V)} {ds : List (List Int × D)}, RepT C F vs ds → vs.length = ds.length
  | _, _, .nil => rfl
  | _, _, .cons _ r => by simp [repT_len r]
theorem c_len : CallOk1 X C (.builtin "len") oLen := by
  refine ⟨_, call_len_seq.or (call_lenD.or call_len_dT), fun x dx F H b Q l i rx e k => ?_⟩
  cases dx <;> try (simp [oLen] at e; done)
  · cases e
    obtain ⟨a, vs, rfl, fa, ha, z, r⟩ := ro_tup l rx
    refine .inl ⟨a, vs, rfl, .inr (SqT.of ha), ?_⟩
    rw [r.length]
    exact q_here l k rfl (.int _)
  · cases e
    obtain ⟨a, vs, rfl, ha, z, r⟩ := ro_lst l rx
    refine .inl ⟨a, vs, rfl, .inl (SqL.of ha), ?_⟩
    rw [r.length]
    exact q_here l k rfl (.int _)
  · cases e
    obtain ⟨a, vs, rfl, ha, r⟩ := ro_dk l rx
    refine .inr (.inl ⟨a, vs, rfl, ha, ?_⟩)
    rw [repK_len r]
    exact q_here l k rfl (.int _)
  · cases e
    obtain ⟨a, vs, rfl, ha, r⟩ := ro_dt l rx
    refine .inr (.inr ⟨a, vs, rfl, ha, ?_⟩)
    rw [repT_len r]
    exact q_here l k rfl (.int _)
theorem c_abs : CallOk1 X C (.builtin "abs") oAbs := by
  refine ⟨_, call_abs, fun x dx F H b Q l i rx e k => ?_⟩
  unfold oAbs at e
  split at e
  · cases e
    rw [ro_int rx]
    exact ⟨_, rfl, q_here l k rfl (.int _)⟩
  · cases e
theorem c_int : CallOk1 X C (.type "int") oInt := by
  refine ⟨_, call_int1, fun x dx F H b Q l i rx e k => ?_⟩
  unfold oInt at e
  split at e
  · cases e
    rw [ro_int rx]
    exact .inl ⟨_, rfl, q_here l k rfl (.int _)⟩
  · cases e
    rw [ro_bl rx]
    exact .inr ⟨_, rfl, q_here l k rfl (.int _)⟩
  · cases e
theorem c_tuple : CallOk1 X C (.type "tuple") oTuple := by
  refine ⟨_, call_tuple_of, fun x dx F H b Q l i rx e k => ?_⟩
  unfold oTuple at e
  split at e
  · cases e
    obtain ⟨a, vs, rfl, ha, z, r⟩ := ro_lst l rx
    exact ⟨a, vs, rfl, .inl ⟨SqL.of ha, fun p hp => q_tup l k hp z r⟩⟩
  · cases e
    obtain ⟨a, vs, rfl, fa, ha, z, r⟩ := ro_tup l rx
    exact ⟨a, vs, rfl, .inr ⟨SqT.of ha, q_here l k rfl (.tup fa z r)⟩⟩
  · cases e
theorem c_list : CallOk1 X C (.type "list") oList := by
  refine ⟨_, call_list_of, fun x dx F H b Q l i rx e k => ?_⟩
  unfold oList at e
  split at e
  · cases e
    obtain ⟨a, vs, rfl, ha, z, r⟩ := ro_lst l rx
    exact ⟨a, vs, rfl, .inl (SqL.of ha), fun p hp => q_lst l i k hp z r⟩
  · cases e
    obtain ⟨a, vs, rfl, fa, ha, z, r⟩ := ro_tup l rx
    exact ⟨a, vs, rfl, .inr (SqT.of ha), fun p hp => q_lst l i k hp z r⟩
  · cases e
theorem maxI_spec : ∀ (r : List Int) (m : Int), maxI m r ∈ m :: r ∧ ∀ y, y ∈ m :: r → y ≤ maxI m r
  | [], m => ⟨by simp [maxI], fun y hy => by simp at hy; subst hy; exact Int.le_refl _⟩
  | x :: r, m => by
    have ih := maxI_spec r (if x > m then x else m)
    unfold maxI
    refine ⟨?_, fun y hy => ?_⟩
    · have h1 := ih.1
      simp only [List.mem_cons] at h1 ⊢
      rcases h1 with h1 | h1
      · rw [h1]; split <;> simp
      · exact .inr (.inr h1)
    · simp only [List.mem_cons] at hy
      have h2 := ih.2 (if x > m then x else m) (by simp)
      have h3 : m ≤ (if x > m then x else m) ∧ x ≤ (if x > m then x else m) := by split <;> omega
      rcases hy with rfl | rfl | hy
      · exact Int.le_trans h3.1 h2
      · exact Int.le_trans h3.2 h2
      · exact ih.2 y (by simp [hy])
theorem minI_spec : ∀ (r : List Int) (m : Int), minI m r ∈ m :: r ∧ ∀ y, y ∈ m :: r → minI m r ≤ y
  | [], m => ⟨by simp [minI], fun y hy => by simp at hy; subst hy; exact Int.le_refl _⟩
  | x :: r, m => by
    have ih := minI_spec r (if x < m then x else m)
    unfold minI
    refine ⟨?_, fun y hy => ?_⟩
    · have h1 := ih.1
      simp only [List.mem_cons] at h1 ⊢
      rcases h1 with h1 | h1
      · rw [h1]; split <;> simp
      · exact .inr (.inr h1)
    · simp only [List.mem_cons] at hy
      have h2 := ih.2 (if x < m then x else m) (by simp)
      have h3 : (if x < m then x else m) ≤ m ∧ (if x < m then x else m) ≤ x := by split <;> omega
      rcases hy with rfl | rfl | hy
      · exact Int.le_trans h2 h3.1
      · exact Int.le_trans h2 h3.2
      · exact ih.2 y (by simp [hy])
theorem c_maxL (hc : X.calm = true) : CallOk1 X C (.builtin "max") oMaxL := by
  refine ⟨_, cr_max hc, fun x dx F H b Q l i rx e k => ?_⟩
  cases dx <;> try (simp [oMaxL] at e; done)
  rename_i ds
  simp only [oMaxL] at e
  split at e
  · rename_i m r q
    cases e
    obtain ⟨a, vs, rfl, ha, z, rr⟩ := ro_lst l rx
    rw [ints_of rr q] at ha
    refine ⟨a, m :: r, rfl, SqL.of ha, by simp, fun m' h1 h2 => ?_⟩
    have s := maxI_spec r m
    have e : m' = maxI m r := Int.le_antisymm (s.2 _ h1) (h2 _ s.1)
    rw [e]
    exact q_here l k rfl (.int _)
  · cases e
theorem c_minL (hc : X.calm = true) : CallOk1 X C (.builtin "min") oMinL := by
  refine ⟨_, cr_min hc, fun x dx F H b Q l i rx e k => ?_⟩
  cases dx <;> try (simp [oMinL] at e; done)
  rename_i ds
  simp only [oMinL] at e
  split at e
  · rename_i m r q
    cases e
    obtain ⟨a, vs, rfl, ha, z, rr⟩ := ro_lst l rx
    rw [ints_of rr q] at ha
    refine ⟨a, m :: r, rfl, SqL.of ha, by simp, fun m' h1 h2 => ?_⟩
    have s := minI_spec r m
    have e : m' = minI m r := Int.le_antisymm (h2 _ s.1) (s.2 _ h1)
    rw [e]
    exact q_here l k rfl (.int _)
  · cases e
theorem c_sum (hc : X.calm = true) : CallOk1 X C (.builtin "sum") oSum := by
  refine ⟨_, cr_sum hc, fun x dx F H b Q l i rx e k => ?_⟩
  cases dx <;> try (simp [oSum] at e; done)
  rename_i ds
  simp only [oSum] at e
  split at e
  · rename_i is q
    cases e
    obtain ⟨a, vs, rfl, ha, z, rr⟩ := ro_lst l rx
    rw [ints_of rr q] at ha
    exact ⟨a, is, rfl, SqL.of ha, q_here l k rfl (.int _)⟩
  · cases e
theorem c_max2 (hc : X.calm = true) : CallOk2 X C (.builtin "max") oMax2 := by
  refine ⟨_, call_max2 hc, fun x y dx dy F H b Q l i rx ry e k => ?_⟩
  unfold oMax2 at e
  split at e
  · cases e
    rw [ro_int rx, ro_int ry]
    exact ⟨_, _, rfl, q_here l k rfl (.int _)⟩
  · cases e
theorem c_min2 (hc : X.calm = true) : CallOk2 X C (.builtin "min") oMin2 := by
  refine ⟨_, call_min2 hc, fun x y dx dy F H b Q l i rx ry e k => ?_⟩
  unfold oMin2 at e
  split at e
  · cases e
    rw [ro_int rx, ro_int ry]
    exact ⟨_, _, rfl, q_here l k rfl (.int _)⟩
  · cases e
theorem c_gcd : CallOk2 X C (.builtin "math.gcd") oGcd := by
  refine ⟨_, cr_gcd, fun x y dx dy F H b Q l i rx ry e k => ?_⟩
  unfold oGcd at e
  split at e
  · cases e
    rw [ro_int rx, ro_int ry]
    exact ⟨_, _, rfl, q_here l k rfl (.int _)⟩
  · cases e

/-! ### isinstance -/
def Ty.nm : Ty → String
  | .int => "int" | .bool => "bool" | .tuple => "tuple" | .list => "list" | .str => "str"
theorem kit_all {K : PySem.W.Frag} {F H : Hp} {x : V} {d : D} {t : Ty} {b : Bool} (l : Le F H) (r : RO C F H x d) (h : isTy t d = some b) : ∃ u, TyX K H x u ∧ PySem.W.kitOne K u (.type t.nm) = some b := by
  cases d with
  | non =>
    rw [ro_non r]
    refine ⟨_, .base .non, kit_ty ?_⟩
    cases t <;> (simp only [isTy, Option.some.injEq] at h; subst h; decide +kernel)
  | bl c =>
    rw [ro_bl r]
    refine ⟨_, .base (.bl c), kit_ty ?_⟩
    cases t <;> (simp only [isTy, Option.some.injEq] at h; subst h; decide +kernel)
  | int c =>
    rw [ro_int r]
    refine ⟨_, .base (.int c), kit_ty ?_⟩
    cases t <;> (simp only [isTy, Option.some.injEq] at h; subst h; decide +kernel)
  | str c =>
    rw [ro_str r]
    refine ⟨_, .base (.str c), kit_ty ?_⟩
    cases t <;> (simp only [isTy, Option.some.injEq] at h; subst h; decide +kernel)
  | tup ds =>
    obtain ⟨a, vs, rfl, fa, ha, z, rr⟩ := ro_tup l r
    refine ⟨_, .base (.tup ha), kit_ty ?_⟩
    cases t <;> (simp only [isTy, Option.some.injEq] at h; subst h; decide +kernel)
  | lst ds =>
    obtain ⟨a, vs, rfl, ha, z, rr⟩ := ro_lst l r
    refine ⟨_, .base (.lst ha), kit_ty ?_⟩
    cases t <;> (simp only [isTy, Option.some.injEq] at h; subst h; decide +kernel)
  | _ => cases t <;> simp [isTy] at h
theorem se_isi {x y : Str} {p p2 : Pos} {e : Expr} {f : E} (t : Ty) (hg : Gl X "isinstance") (hm : X.mg "isinstance" = none) (hgt : Gl X y) (hmt : X.mg y = none) (hv : bootBuiltins y = some (.type t.nm)) (ha : SE X C W e f)
    (hn : y ≠ "__name__" := by decide) (hdb : (y == ("__debug__" : Str)) = false := by decide) (he : starEach [e, .Name y p2] X.env = (false, eval e X.env) :: starEach [.Name y p2] X.env := by rfl) :
    SE X C W (.Call (.Name "isinstance" p) [e, .Name y p2] [] pos) (eUn (oIs t) f) := by
  refine pe_imp (pe_callB call_isi hg hm (by decide +kernel) (pa_cons ha (pa_cons (pe_bltn (v := .ty t.nm) hgt hmt hv rfl hn hdb) pa_nil) he) (by decide) (by decide) he) fun σ H Q tt => ?_
  refine one_op (r := fun x H1 Q => rIsi X.K [x, .ty t.nm] H1 Q) (fun x dx F H b Q l i rx e k => ?_) tt
  unfold oIs at e
  split at e
  · rename_i bb q
    cases e
    obtain ⟨u, h1, h2⟩ := kit_all (K := X.K) l rx q
    exact ⟨x, _, u, _, bb, rfl, .ty _, h1, h2, q_here l k rfl (.bl _)⟩
  · cases e

/-! ### own defs -/
structure FnG (P : Program) (w : World) (K : PySem.W.Frag) (mg : Str → Option Value) (base : Heap) (k : Nat) (f : Addr) (fd : FuncData) (ps : List Str) (sp : Sp) : Prop where
  len : ∀ vs H Q E, sp vs H Q E → vs.length = ps.length
  run : ∀ (A : Around) (outer : List Env) (s : Shared) (H : Hp) (args : Args) (us : List Value) (vs : List V) (Q : VK) (E : XK), Room k A → A.guards = some [] → Env0 P w K mg base A outer s H →
    BindsTo s fd args (ps.zip us) → Vals vs us → sp vs H Q E → codeAny (model P w) A (.call (.ref f) args) (CR (L2.CX P w) outer P w H s Q E) s
theorem FnG.mono {P : Program} {w : World} {K : PySem.W.Frag} {mg : Str → Option Value} {base : Heap} {j k : Nat} {f : Addr} {fd : FuncData} {ps : List Str} {sp : Sp} (F : FnG P w K mg base j f fd ps sp) (h : j ≤ k) : FnG P w K mg base k f fd ps sp :=
  ⟨F.len, fun A outer s H args us vs Q E hr => F.run A outer s H args us vs Q E (hr.mono h)⟩
/-- what a def of n parameters promises: what m tells -/
def spF (C : Cs) (m : Fn) : Sp := fun vs H Q Ex => ∃ F g ds, Le F H ∧ StOk C F g H ∧ TabsC C F H ∧ Reps C F vs ds ∧
  onOk (m ds g) (fun b g' => ∀ v F' H', After C F H g' F' H' → RB C H F' H' v b → Q v H') (fun x g' => ∀ cls d F' H', After C F H g' F' H' → ExR C F' x cls d → Ex cls d H')
theorem run_own {k : Nat} {f : Addr} {fd : FuncData} {ps : List Str} {sp : Sp} {E : L2.St → XK} {pins : List (Addr × Obj)} {σ : L2.St} {H : Hp} {s : Shared} {Q : VK} {us : List Value} {vs : List V} (F : FnG X.prog X.w X.K X.mg X.base k f fd ps sp) (hr : Room k X.A) (hgd : X.A.guards = some [])
    (hb : Binds X.K fd ps []) (hx : PassesAt (L2.CX X.prog X.w) X σ (E σ)) (I : Inv X pins σ H s) (r : Vals vs us) (h : sp vs H Q (E σ)) : wpAny (model X.prog X.w) X.A (call (.ref f) us) (EP X pins σ Q) X.xe s := by
  have hl : us.length = ps.length := by
    rw [← r.length]
    exact F.len _ _ _ _ h
  have bound := hb s us I.kIn (by simpa using hl)
  rw [List.append_nil] at bound
  refine wpAny_call (codeAny_mono (F.run X.A X.stack s H ⟨us, []⟩ us vs Q (E σ) hr hgd I.env0 bound r h) fun res s' got => ?_)
  rcases res with er | (u | _ | _ | _)
  · exact hx pins H s er s' I got
  · first | exact I.after got | exact got.elim
  · first | exact I.after got | exact got.elim
  · first | exact I.after got | exact got.elim
  · first | exact I.after got | exact got.elim
section
variable {k : Nat} {f : Addr} {fd : FuncData} {ps : List Str} {m : Fn} {x : Str} {p : Pos}
theorem se_call {e : Expr} {es : List Expr} {fs : List E} (F : FnG X.prog X.w X.K X.mg X.base k f fd ps (spF C m)) (hr : Room k X.A) (hgd : X.A.guards = some []) (hg : Gl X x) (hm : X.mg x = some (.ref f)) (hk : PySem.W.keepIn X.K (.ref f) = true) (hb : Binds X.K fd ps [])
    (tk : Takes X W) (ha : SA X C W (e :: es) fs) (hdb : (x == ("__debug__" : Str)) = false := by decide) (he : starEach (e :: es) X.env = (false, eval e X.env) :: starEach es X.env := by rfl) (hpl : (backTo pos (starEach es X.env)).any (·.1) = false := by rfl) :
    SE X C W (.Call (.Name x p) (e :: es) [] pos) (eCall m fs) := by
  have hc : PE X (.Call (.Name x p) (e :: es) [] pos) (fun σ H Q => tA C W fs σ H fun vs H1 => spF C m vs H1 Q (WE W σ)) := by
    constructor
    intro pins s σ H Q I h
    refine wpAny_Call_Name_kw (ld_glob I hg hm ?_ hdb)
    refine PySem.W.callWith_K (h₀ := X.base) I.ok.mod.kin hk (thn (ha.run pos pins s σ H _ I h) fun us s1 got => ?_) he hpl
    obtain ⟨vs, H1, I1, r, q⟩ := got
    exact ⟨I1.kIn, run_own (E := WE W) F hr hgd hb (passAt tk σ) I1 r q⟩
  refine pe_imp hc ?_
  rintro σ H Q ⟨F0, H0, F, ρ, g, rel, h⟩
  rw [eCall_0] at h
  unfold eCall0 at h
  rw [onOk_bind] at h
  refine ⟨F0, H0, F, ρ, g, rel, onOk_mono h (fun ds g1 h1 vs F1 H1 a1 r1 => ?_) fun x g1 h1 => h1⟩
  exact ⟨F1, g1, ds, a1.stp.le, a1.st, a1.tabs, r1, onOk_mono h1 (fun b g2 h2 v F2 H2 a2 rb => h2 v F2 H2 (a1.trans a2) (rb.early a1)) fun x g2 h2 cls d F2 H2 a2 ex => h2 cls d F2 H2 (a1.trans a2) ex⟩
theorem se_call0 (F : FnG X.prog X.w X.K X.mg X.base k f fd ps (spF C m)) (hr : Room k X.A) (hgd : X.A.guards = some []) (hg : Gl X x) (hm : X.mg x = some (.ref f)) (hk : PySem.W.keepIn X.K (.ref f) = true) (hb : Binds X.K fd ps [])
    (tk : Takes X W) (hdb : (x == ("__debug__" : Str)) = false := by decide) : SE X C W (.Call (.Name x p) [] [] pos) (eCall m []) := by
  have hc : PE X (.Call (.Name x p) [] [] pos) (fun σ H Q => spF C m [] H Q (WE W σ)) := by
    constructor
    intro pins s σ H Q I h
    refine wpAny_Call_Name_kw (ld_glob I hg hm ?_ hdb)
    exact PySem.W.callWith_K0 I.kIn hk (run_own (us := []) (E := WE W) F hr hgd hb (passAt tk σ) I .nil h)
  refine pe_imp hc ?_
  rintro σ H Q ⟨F0, H0, F, ρ, g, rel, h⟩
  exact ⟨F, g, [], rel.stp.le, rel.st, rel.tabs, .nil, h⟩
end
end
end Sx

set_option Elab.async false
set_option linter.all false
set_option maxRecDepth 100000
set_option maxHeartbeats 4000000
/-! Sx7: statements, loops, defs. -/
namespace Sx
open PySem PySem.Spec PyProof.Rows L2

/-- what is wanted behind a statement: Fc is what is shared ahead of it -/
def PostS (C : Cs) (W : WX) (F0 H0 Fc : Hp) (D : Ends) : SR → Prop
  | .nx ρ g => ∀ σ F H, Le Fc F → Rel C F0 H0 F ρ g σ H → D.nx σ H
  | .rt b g => ∀ v F H, After C F0 H0 g F H → RB C H0 F H v b → D.rt v H
  | .bk ρ g => ∀ σ F H, Le Fc F → Rel C F0 H0 F ρ g σ H → D.bk σ H
  | .ct ρ g => ∀ σ F H, Le Fc F → Rel C F0 H0 F ρ g σ H → D.ct σ H
  | .er x ρ g => ∀ cls d σ F H, Le Fc F → Rel C F0 H0 F ρ g σ H → ExR C F x cls d → W cls d σ H
  | .no => False
theorem PostS.up {C : Cs} {W : WX} {F0 H0 Fc Fd : Hp} {D : Ends} {r : SR} (h : PostS C W F0 H0 Fc D r) (l : Le Fc Fd) : PostS C W F0 H0 Fd D r := by
  cases r with
  | nx ρ g => exact fun σ F H l2 r => h σ F H (l.trans l2) r
  | rt b g => exact h
  | bk ρ g => exact fun σ F H l2 r => h σ F H (l.trans l2) r
  | ct ρ g => exact fun σ F H l2 r => h σ F H (l.trans l2) r
  | er x ρ g => exact fun cls d σ F H l2 r => h cls d σ F H (l.trans l2) r
  | no => exact h
def tS (C : Cs) (W : WX) (f : S) : TS := fun D σ H => ∃ F0 H0 F ρ g, Rel C F0 H0 F ρ g σ H ∧ PostS C W F0 H0 F D (f ρ g)
abbrev SS (X : Cx) (C : Cs) (W : WX) (st : Stmt) (f : S) : Prop := PS X st (tS C W f)
abbrev SSs (X : Cx) (C : Cs) (W : WX) (st : List Stmt) (f : S) : Prop := PSs X st (tS C W f)
theorem ps_imp {X : Cx} {e : Stmt} {t t' : TS} (h : PS X e t) (i : ∀ D σ H, t' D σ H → t D σ H) : PS X e t' := ⟨fun pins s σ H D I q => h.run pins s σ H D I (i _ _ _ q)⟩
theorem pss_imp {X : Cx} {e : List Stmt} {t t' : TS} (h : PSs X e t) (i : ∀ D σ H, t' D σ H → t D σ H) : PSs X e t' := ⟨fun pins s σ H D I q => h.run pins s σ H D I (i _ _ _ q)⟩

section
variable {X : Cx} {C : Cs} {W : WX} {pos : Pos}
theorem RB.step {H F1 H1 F2 H2 : Hp} {v : V} {b : B} (r : RB C H F1 H1 v b) (s : Stp C F1 H1 F2 H2) : RB C H F2 H2 v b := by
  unfold RB at *
  cases e : b.t with
  | sh => rw [e] at r; exact r.le s.ff
  | ow => rw [e] at r; obtain ⟨p, hp, o⟩ := r; exact ⟨p, hp, o.step s⟩
  | bw => rw [e] at r; obtain ⟨p, o⟩ := r; exact ⟨p, o.step s⟩
theorem Own.there {F H : Hp} {v : V} {a : Addr} {d : D} (o : Own C F H v a d) : H a ≠ none := by
  obtain ⟨u, h, _⟩ := o.top.there
  rw [h]; simp
theorem Rel.none0 {F0 H0 F H : Hp} {ρ : Ro} {g : G} {σ : L2.St} (r : Rel C F0 H0 F ρ g σ H) {p : Addr} (h : H p = none) : H0 p = none := by
  cases q : H0 p with
  | none => rfl
  | some o => exact absurd h (r.stp.there p (by rw [q]; simp))
/-- a slot is stored -/
theorem Rel.set {F0 H0 F H F1 H1 : Hp} {ρ : Ro} {g g1 : G} {σ : L2.St} {v : V} {b : B} (rel : Rel C F0 H0 F ρ g σ H) (a1 : After C F H g1 F1 H1) (rb : RB C H F1 H1 v b) (nb : b.t ≠ .bw) (i : Nat) :
    Rel C F0 H0 F1 (ρ.set i (some b)) g1 (σ.set i (some v)) H1 := by
  have rel1 := rel.step a1
  have get : ∀ (j : Nat) (c : B), (ρ.set i (some b))[j]? = some (some c) → (i = j ∧ c = b ∧ i < ρ.length) ∨ (i ≠ j ∧ ρ[j]? = some (some c)) := fun j c h => by
    by_cases e : i = j
    · subst e
      by_cases hl : i < ρ.length
      · rw [List.getElem?_set_self hl] at h; cases h; exact .inl ⟨rfl, rfl, hl⟩
      · rw [List.getElem?_eq_none (by rw [List.length_set]; omega)] at h; cases h
    · rw [List.getElem?_set_ne e] at h; exact .inr ⟨e, h⟩
  have rs : RS C H0 F1 H1 v b := by
    unfold RB at rb
    unfold RS
    cases e : b.t with
    | sh => rw [e] at rb; exact rb
    | ow => rw [e] at rb; obtain ⟨p, hp, o⟩ := rb; exact ⟨p, rel.none0 hp, o⟩
    | bw => exact absurd e nb
  -- a new own container is no other slot's
  have other : ∀ (j : Nat) (c : B) (a : Addr), ρ[j]? = some (some c) → c.t = .ow → b.t = .ow → σ[j]? = some (some (.ref a)) → v ≠ .ref a := fun j c a hj hc hb hs z => by
    subst z
    unfold RB at rb
    rw [hb] at rb
    obtain ⟨p, hp, o⟩ := rb
    have e := o.v
    cases e
    obtain ⟨u, hu, r⟩ := rel.slot j c hj
    rw [hs] at hu; cases hu
    unfold RS at r
    rw [hc] at r
    obtain ⟨q, _, o2⟩ := r
    have e := o2.v
    cases e
    exact o2.there hp
  refine ⟨rel1.stp, rel1.st, rel1.tabs, by rw [List.length_set, List.length_set]; exact rel.len, fun j c h => ?_, fun j k bj bk a hj hk tj tk sj sk => ?_, rel.ent⟩
  · rcases get j c h with ⟨rfl, rfl, hl⟩ | ⟨e, h⟩
    · exact ⟨v, by rw [List.getElem?_set_self (by rw [← rel.len]; exact hl)], rs⟩
    · obtain ⟨u, h1, h2⟩ := rel1.slot j c h
      exact ⟨u, by rw [List.getElem?_set_ne e]; exact h1, h2⟩
  · rcases get j bj hj with ⟨rfl, rfl, hl⟩ | ⟨e, h⟩
    · rcases get k bk hk with ⟨rfl, rfl, _⟩ | ⟨e2, h2⟩
      · rfl
      · rw [List.getElem?_set_self (by rw [← rel.len]; exact hl)] at sj
        rw [List.getElem?_set_ne e2] at sk
        cases sj
        exact absurd rfl (other k bk a h2 tk tj sk)
    · rcases get k bk hk with ⟨rfl, rfl, hl⟩ | ⟨e2, h2⟩
      · rw [List.getElem?_set_self (by rw [← rel.len]; exact hl)] at sk
        rw [List.getElem?_set_ne e] at sj
        cases sk
        exact absurd rfl (other j bj a h tj tk sj)
      · rw [List.getElem?_set_ne e] at sj
        rw [List.getElem?_set_ne e2] at sk
        exact rel.dis j k bj bk a h h2 tj tk sj sk

/-! ### blocks -/
theorem ss_nil : SSs X C W [] sPass := by
  refine pss_imp pss_nil ?_
  rintro D σ H ⟨F0, H0, F, ρ, g, rel, h⟩
  exact h σ F H (.refl F) rel
theorem seq_of {a b : S} {D : Ends} {σ : L2.St} {H : Hp} (t : tS C W (sSeq a b) D σ H) : tSeq (tS C W a) (tS C W b) D σ H := by
  obtain ⟨F0, H0, F, ρ, g, rel, h⟩ := t
  refine ⟨F0, H0, F, ρ, g, rel, ?_⟩
  unfold sSeq at h
  split at h
  · rename_i ρ1 g1 e
    rw [e]
    exact fun σ1 F1 H1 l1 rel1 => ⟨F0, H0, F1, ρ1, g1, rel1, h.up l1⟩
  · rename_i r hr
    cases q : a ρ g with
    | nx ρ1 g1 => exact absurd q (hr ρ1 g1)
    | _ => rw [q] at h; exact h
theorem ss_cons {st : Stmt} {rest : List Stmt} {a b : S} (h1 : SS X C W st a) (h2 : SSs X C W rest b) : SSs X C W (st :: rest) (sSeq a b) := pss_imp (pss_cons h1 h2) fun _ _ _ => seq_of
theorem ss_one {st : Stmt} {a : S} (h1 : SS X C W st a) : SSs X C W [st] a := pss_one h1
theorem ss_pass : SS X C W (.Pass pos) sPass := by
  refine ps_imp ps_pass ?_
  rintro D σ H ⟨F0, H0, F, ρ, g, rel, h⟩
  exact h σ F H (.refl F) rel
theorem ss_break : SS X C W (.Break pos) sBreak := by
  refine ps_imp ps_break ?_
  rintro D σ H ⟨F0, H0, F, ρ, g, rel, h⟩
  exact h σ F H (.refl F) rel

/-- an expression ahead of what a statement does -/
theorem on_r {F0 H0 F H : Hp} {ρ : Ro} {g : G} {σ : L2.St} {D : Ends} {r : R B} {k : B → G → SR} (rel : Rel C F0 H0 F ρ g σ H) {Fc : Hp} (lc : Le Fc F) (h : PostS C W F0 H0 Fc D (onR r ρ k)) :
    onOk r (fun b g1 => PostS C W F0 H0 Fc D (k b g1)) (fun x g' => ∀ cls d F' H', After C F H g' F' H' → ExR C F' x cls d → W cls d σ H') := by
  cases r with
  | ok b g1 => exact h
  | er x g1 => exact fun cls d F' H' a e => h cls d σ F' H' (lc.trans a.stp.ff) (rel.step a) e
  | no => exact h
theorem ss_set {i : Nat} {x : Str} {e : Expr} {f : E} {pos' : Pos} (hN : X.N.Nodup) (he : SE X C W e f) (hi : X.N[i]? = some x := by rfl) (hx : Loc X.env.scope x := by first | exact .inl rfl | exact .inr rfl) (hs : swapsWith e (some (.Name x pos')) pos.line X.env = pure false := by rfl)
    (hf : X.fn x = true ∨ X.env.scope.names.lookup x = some .local := by first | exact .inl rfl | exact .inr rfl | assumption) : SS X C W (.Assign [.Name x pos'] e pos) (sAsg i f) := by
  refine ps_imp (ps_set hN hi hx he hs hf) ?_
  rintro D σ H ⟨F0, H0, F, ρ, g, rel, h⟩
  rw [sAsg_0] at h
  refine ⟨F0, H0, F, ρ, g, rel, onOk_mono (on_r rel (.refl F) h) (fun b g1 h1 v F1 H1 a1 r1 => ?_) fun x g1 h1 => h1⟩
  split at h1
  · exact h1.elim
  · rename_i nb
    exact h1 _ F1 H1 a1.stp.ff (rel.set a1 r1 (fun z => nb z) i)
theorem ss_ret {e : Expr} {f : E} (he : SE X C W e f) : SS X C W (.Return (some e) pos) (sRet f) := by
  refine ps_imp (ps_ret he) ?_
  rintro D σ H ⟨F0, H0, F, ρ, g, rel, h⟩
  refine ⟨F0, H0, F, ρ, g, rel, onOk_mono (on_r rel (.refl F) h) (fun b g1 h1 v F1 H1 a1 r1 => ?_) fun x g1 h1 => h1⟩
  split at h1
  · exact h1.elim
  · rename_i nb
    have rel1 := rel.step a1
    refine h1 v F1 H1 ⟨rel1.stp, rel1.st, rel1.tabs⟩ ?_
    unfold RB at r1 ⊢
    cases e : b.t with
    | sh => rw [e] at r1; exact r1
    | ow => rw [e] at r1; obtain ⟨p, hp, o⟩ := r1; exact ⟨p, rel.none0 hp, o⟩
    | bw => exact absurd e (fun z => nb z)
theorem ss_retV {i : Nat} {x : Str} {p : Pos} (hN : X.N[i]? = some x := by rfl) (hv : Vis X.env.scope x := by first | exact Or.inl rfl | exact Or.inr (Or.inl rfl) | exact Or.inr (Or.inr rfl)) (hd : (x == ("__debug__" : Str)) = false := by decide)
    (hcd : (x == ("__classdict__" : Str)) = false := by decide) : SS X C W (.Return (some (.Name x p)) pos) (sRetV i) := by
  refine ps_imp (ps_ret (pe_var hN hv hd hcd)) ?_
  rintro D σ H ⟨F0, H0, F, ρ, g, rel, h⟩
  unfold sRetV at h
  split at h
  · rename_i b e
    obtain ⟨v, h1, h2⟩ := rel.slot _ _ e
    refine ⟨v, h1, h v F H ⟨rel.stp, rel.st, rel.tabs⟩ ?_⟩
    unfold RS at h2
    unfold RB
    cases e : b.t with
    | sh => rw [e] at h2; exact h2
    | ow => rw [e] at h2; exact h2
    | bw => rw [e] at h2; exact h2.elim
  · exact h.elim
theorem ss_expr {e : Expr} {f : E} (he : SE X C W e f) (hs : swapsWith e none pos.line X.env = pure false := by rfl) : SS X C W (.Expr e pos) (sExpr f) := by
  refine ps_imp (ps_expr he hs) ?_
  rintro D σ H ⟨F0, H0, F, ρ, g, rel, h⟩
  exact ⟨F0, H0, F, ρ, g, rel, onOk_mono (on_r rel (.refl F) h) (fun b g1 h1 v F1 H1 a1 r1 => h1 σ F1 H1 a1.stp.ff (rel.step a1)) fun x g1 h1 => h1⟩
theorem ss_if {c : Expr} {a b : List Stmt} {k : E} {f h : S} (hc : SB X C W c k) (ha : SSs X C W a f) (hb : SSs X C W b h) : SS X C W (.If c a b pos) (sIf k f h) := by
  refine ps_imp (ps_if hc ha hb) ?_
  rintro D σ H ⟨F0, H0, F, ρ, g, rel, h⟩
  refine ⟨F0, H0, F, ρ, g, rel, onOk_mono (on_r rel (.refl F) h) (fun b g1 h1 => ?_) fun x g1 h1 => h1⟩
  split at h1
  · refine ⟨true, rfl, fun F1 H1 a1 => ?_⟩
    refine iteT ?_
    exact ⟨F0, H0, F1, ρ, g1, rel.step a1, h1.up a1.stp.ff⟩
  · refine ⟨false, rfl, fun F1 H1 a1 => ?_⟩
    refine iteF ?_
    exact ⟨F0, H0, F1, ρ, g1, rel.step a1, h1.up a1.stp.ff⟩
  · exact h1.elim
theorem ss_par {i j : Nat} {x y : Str} {a b : Expr} {f h : E} {px py pt : Pos} {kt k2 : Nat} {pt2 : Pos} (hc : X.calm = true) (hN : X.N.Nodup) (ha : SE X C W a f) (hb : SE X C W b h) (hi : X.N[i]? = some x := by rfl) (hj : X.N[j]? = some y := by rfl) (hij : i ≠ j := by decide)
    (hx : X.env.scope.names.lookup x = some .local := by rfl) (hy : X.env.scope.names.lookup y = some .local := by rfl)
    (hw : swappedStores [.Tuple [.Name x px, .Name y py] kt pt] (.Tuple [a, b] k2 pt2) X.env = pure (some [x, y]) := by rfl)
    (hs : swapsWithSole [.Tuple [.Name x px, .Name y py] kt pt] (.Tuple [a, b] k2 pt2) pos.line X.env = pure false := by rfl)
    (he : starEach [a, b] X.env = (false, eval a X.env) :: starEach [b] X.env := by rfl) (he2 : starEach [b] X.env = (false, eval b X.env) :: starEach [] X.env := by rfl) :
    SS X C W (.Assign [.Tuple [.Name x px, .Name y py] kt pt] (.Tuple [a, b] k2 pt2) pos) (sPar i j f h) := by
  refine ps_imp (ps_par hc hN hi hj hij hx hy (pa_cons ha (pa_cons hb pa_nil he2) he) hw hs) ?_
  rintro D σ H ⟨F0, H0, F, ρ, g, rel, h⟩
  rw [sPar_0] at h
  refine ⟨F0, H0, F, ρ, g, rel, onOk_mono (on_r rel (.refl F) h) (fun b g1 h1 v F1 H1 a1 r1 => ?_) fun x g1 h1 => h1⟩
  split at h1
  · exact h1.elim
  · rename_i nb
    have rel1 := rel.step a1
    refine ⟨F0, H0, F1, ρ, g1, rel1, onOk_mono (on_r rel1 a1.stp.ff h1) (fun c g2 h2 w F2 H2 a2 r2 => ?_) fun x g2 h2 => h2⟩
    split at h2
    · exact h2.elim
    · rename_i nc
      refine ⟨v, w, rfl, h2 _ F2 H2 (a1.stp.ff.trans a2.stp.ff) ?_⟩
      exact (rel.set a1 r1 (fun z => nb z) i).set a2 r2 (fun z => nc z) j
theorem ss_par3 {i j k : Nat} {x y z : Str} {a b c : Expr} {f h l : E} {px py pz pt : Pos} {kt k2 : Nat} {pt2 : Pos} (hc : X.calm = true) (hN : X.N.Nodup) (ha : SE X C W a f) (hb : SE X C W b h) (hcc : SE X C W c l)
    (hi : X.N[i]? = some x := by rfl) (hj : X.N[j]? = some y := by rfl) (hk : X.N[k]? = some z := by rfl) (hij : i ≠ j := by decide) (hik : i ≠ k := by decide) (hjk : j ≠ k := by decide)
    (hx : X.env.scope.names.lookup x = some .local := by rfl) (hy : X.env.scope.names.lookup y = some .local := by rfl) (hz : X.env.scope.names.lookup z = some .local := by rfl)
    (hw : swappedStores [.Tuple [.Name x px, .Name y py, .Name z pz] kt pt] (.Tuple [a, b, c] k2 pt2) X.env = pure (some [x, y, z]) := by rfl)
    (hs : swapsWithSole [.Tuple [.Name x px, .Name y py, .Name z pz] kt pt] (.Tuple [a, b, c] k2 pt2) pos.line X.env = pure false := by rfl)
    (he : starEach [a, b, c] X.env = (false, eval a X.env) :: starEach [b, c] X.env := by rfl) (he2 : starEach [b, c] X.env = (false, eval b X.env) :: starEach [c] X.env := by rfl) (he3 : starEach [c] X.env = (false, eval c X.env) :: starEach [] X.env := by rfl) :
    SS X C W (.Assign [.Tuple [.Name x px, .Name y py, .Name z pz] kt pt] (.Tuple [a, b, c] k2 pt2) pos) (sPar3 i j k f h l) := by
  refine ps_imp (ps_par3 hc hN hi hj hk hij hik hjk hx hy hz (pa_cons ha (pa_cons hb (pa_cons hcc pa_nil he3) he2) he) hw hs) ?_
  rintro D σ H ⟨F0, H0, F, ρ, g, rel, h⟩
  rw [sPar3_0] at h
  refine ⟨F0, H0, F, ρ, g, rel, onOk_mono (on_r rel (.refl F) h) (fun b g1 h1 v F1 H1 a1 r1 => ?_) fun x g1 h1 => h1⟩
  split at h1
  · exact h1.elim
  · rename_i nb
    have rel1 := rel.step a1
    refine ⟨F0, H0, F1, ρ, g1, rel1, onOk_mono (on_r rel1 a1.stp.ff h1) (fun c g2 h2 w F2 H2 a2 r2 => ?_) fun x g2 h2 => h2⟩
    split at h2
    · exact h2.elim
    · rename_i nc
      have rel2 := rel1.step a2
      refine ⟨F0, H0, F2, ρ, g2, rel2, onOk_mono (on_r rel2 (a1.stp.ff.trans a2.stp.ff) h2) (fun d g3 h3 u F3 H3 a3 r3 => ?_) fun x g3 h3 => h3⟩
      split at h3
      · exact h3.elim
      · rename_i nd
        refine ⟨v, w, u, rfl, h3 _ F3 H3 ((a1.stp.ff.trans a2.stp.ff).trans a3.stp.ff) ?_⟩
        exact ((rel.set a1 r1 (fun z => nb z) i).set a2 r2 (fun z => nc z) j).set a3 r3 (fun z => nd z) k

/-! ### targets -/
def Tg.slots : Tg → List Nat
  | .v i => [i]
  | .two a b => a.slots ++ b.slots
  | .three a b c => a.slots ++ (b.slots ++ c.slots)
  | .four a b c d => a.slots ++ (b.slots ++ (c.slots ++ d.slots))
  | .five a b c d e => a.slots ++ (b.slots ++ (c.slots ++ (d.slots ++ e.slots)))
def Off (is : List Nat) (σ σ' : L2.St) : Prop := σ'.length = σ.length ∧ ∀ i : Nat, i ∉ is → σ'[i]? = σ[i]?
theorem Off.trans {is js : List Nat} {σ σ1 σ2 : L2.St} (a : Off is σ σ1) (b : Off js σ1 σ2) : Off (is ++ js) σ σ2 :=
  ⟨b.1.trans a.1, fun i h => by rw [List.mem_append, not_or] at h; exact (b.2 i h.2).trans (a.2 i h.1)⟩
def gT (C : Cs) (t : Tg) : TG := fun v σ H Q => ∃ F0 H0 F ρ g d ρ1, Rel C F0 H0 F ρ g σ H ∧ Rep C F v d ∧ t.put d ρ = some ρ1 ∧ ∀ σ1, Off t.slots σ σ1 → Rel C F0 H0 F ρ1 g σ1 H → Q σ1 H
abbrev ST (X : Cx) (C : Cs) (e : Expr) (t : Tg) : Prop := PG X e (gT C t)
theorem pg_imp {X : Cx} {e : Expr} {t t' : TG} (h : PG X e t) (i : ∀ v σ H Q, t' v σ H Q → t v σ H Q) : PG X e t' := ⟨fun pins s σ H v u Q I r q => h.run pins s σ H v u Q I r (i _ _ _ _ q)⟩
theorem st_v (i : Nat) {x : Str} (hN : X.N.Nodup) (hi : X.N[i]? = some x := by rfl) (hx : Loc X.env.scope x := by first | exact .inl rfl | exact .inr rfl) (hf : X.fn x = true ∨ X.env.scope.names.lookup x = some .local := by first | exact .inl rfl | exact .inr rfl | assumption) : ST X C (.Name x pos) (.v i) := by
  refine pg_imp (pg_name hN hi hx hf) ?_
  rintro v σ H Q ⟨F0, H0, F, ρ, g, d, ρ1, rel, r, e, k⟩
  rw [put_v] at e
  cases e
  refine k _ ⟨List.length_set .., fun j hj => ?_⟩ (rel.set rel.after (v := v) (b := sh d) r (fun z => by cases z) i)
  simp only [Tg.slots, List.mem_singleton] at hj
  rw [List.getElem?_set_ne (fun z => hj z.symm)]
theorem put_two {a b : Tg} {d : D} {ρ ρ1 : Ro} (e : (Tg.two a b).put d ρ = some ρ1) : ∃ x y ρ2, d = .tup [x, y] ∧ a.put x ρ = some ρ2 ∧ b.put y ρ2 = some ρ1 := by
  cases d with
  | tup ds =>
    match ds, e with
    | [], e => simp [Tg.put] at e
    | [_], e => simp [Tg.put] at e
    | [x, y], e =>
      simp only [Tg.put] at e
      split at e
      · rename_i ρ2 h
        exact ⟨x, y, ρ2, rfl, h, e⟩
      · cases e
    | _ :: _ :: _ :: _, e => simp [Tg.put] at e
  | _ => simp [Tg.put] at e
theorem put_three {a b c : Tg} {d : D} {ρ ρ1 : Ro} (e : (Tg.three a b c).put d ρ = some ρ1) : ∃ x y z ρ2 ρ3, d = .tup [x, y, z] ∧ a.put x ρ = some ρ2 ∧ b.put y ρ2 = some ρ3 ∧ c.put z ρ3 = some ρ1 := by
  cases d with
  | tup ds =>
    match ds, e with
    | [], e => simp [Tg.put] at e
    | [_], e => simp [Tg.put] at e
    | [_, _], e => simp [Tg.put] at e
    | [x, y, z], e =>
      simp only [Tg.put] at e
      split at e
      · rename_i ρ2 h
        split at e
        · rename_i ρ3 h3
          exact ⟨x, y, z, ρ2, ρ3, rfl, h, h3, e⟩
        · cases e
      · cases e
    | _ :: _ :: _ :: _ :: _, e => simp [Tg.put] at e
  | _ => simp [Tg.put] at e
theorem st_two {a b : Expr} {ta tb : Tg} {k : Nat} (hc : X.calm = true) (ha : ST X C a ta) (hb : ST X C b tb) (hs1 : assignEach [a, b] X.env = (false, assign a X.env) :: assignEach [b] X.env := by rfl) (hs2 : assignEach [b] X.env = (false, assign b X.env) :: assignEach [] X.env := by rfl) :
    ST X C (.Tuple [a, b] k pos) (.two ta tb) := by
  refine pg_imp (pg_tup (n := 2) hc (pgs_cons ha (pgs_cons hb pgs_nil (by rw [hs2]; rfl)) (by rw [hs1]; rfl)) (by rw [hs1, hs2]; rfl) (by rw [hs1, hs2]; rfl)) ?_
  rintro v σ H Q ⟨F0, H0, F, ρ, g, d, ρ1, rel, r, e, k⟩
  obtain ⟨x, y, ρ2, rfl, e1, e2⟩ := put_two e
  cases r with
  | tup hf hz q =>
    cases q with
    | cons r1 q => cases q with
      | cons r2 q =>
        cases q
        refine ⟨_, _, rfl, SqT.of (rel.stp.le _ _ hf), rfl, _, _, rfl, F0, H0, F, ρ, g, _, ρ2, rel, r1, e1, fun σ1 o1 rel1 => ?_⟩
        exact ⟨_, _, rfl, F0, H0, F, ρ2, g, _, ρ1, rel1, r2, e2, fun σ2 o2 rel2 => ⟨rfl, k σ2 (o1.trans o2) rel2⟩⟩
theorem st_three {a b c : Expr} {ta tb tc : Tg} {k : Nat} (hc : X.calm = true) (ha : ST X C a ta) (hb : ST X C b tb) (hd : ST X C c tc) (hs1 : assignEach [a, b, c] X.env = (false, assign a X.env) :: assignEach [b, c] X.env := by rfl)
    (hs2 : assignEach [b, c] X.env = (false, assign b X.env) :: assignEach [c] X.env := by rfl) (hs3 : assignEach [c] X.env = (false, assign c X.env) :: assignEach [] X.env := by rfl) : ST X C (.Tuple [a, b, c] k pos) (.three ta tb tc) := by
  refine pg_imp (pg_tup (n := 3) hc (pgs_cons ha (pgs_cons hb (pgs_cons hd pgs_nil (by rw [hs3]; rfl)) (by rw [hs2]; rfl)) (by rw [hs1]; rfl)) (by rw [hs1, hs2, hs3]; rfl) (by rw [hs1, hs2, hs3]; rfl)) ?_
  rintro v σ H Q ⟨F0, H0, F, ρ, g, d, ρ1, rel, r, e, k⟩
  obtain ⟨x, y, z, ρ2, ρ3, rfl, e1, e2, e3⟩ := put_three e
  cases r with
  | tup hf hz q =>
    cases q with
    | cons r1 q => cases q with
      | cons r2 q => cases q with
        | cons r3 q =>
          cases q
          refine ⟨_, _, rfl, SqT.of (rel.stp.le _ _ hf), rfl, _, _, rfl, F0, H0, F, ρ, g, _, ρ2, rel, r1, e1, fun σ1 o1 rel1 => ?_⟩
          refine ⟨_, _, rfl, F0, H0, F, ρ2, g, _, ρ3, rel1, r2, e2, fun σ2 o2 rel2 => ?_⟩
          exact ⟨_, _, rfl, F0, H0, F, ρ3, g, _, ρ1, rel2, r3, e3, fun σ3 o3 rel3 => ⟨rfl, k σ3 (o1.trans (o2.trans o3)) rel3⟩⟩
theorem put_four {a b c d : Tg} {x : D} {ρ ρ1 : Ro} (e : (Tg.four a b c d).put x ρ = some ρ1) : ∃ x1 x2 x3 x4 ρ2 ρ3 ρ4, x = .tup [x1, x2, x3, x4] ∧ a.put x1 ρ = some ρ2 ∧ b.put x2 ρ2 = some ρ3 ∧ c.put x3 ρ3 = some ρ4 ∧ d.put x4 ρ4 = some ρ1 := by
  cases x with
  | tup ds =>
    match ds, e with
    | [], e => simp [Tg.put] at e
    | [_], e => simp [Tg.put] at e
    | [_, _], e => simp [Tg.put] at e
    | [_, _, _], e => simp [Tg.put] at e
    | [x1, x2, x3, x4], e =>
      simp only [Tg.put] at e
      split at e
      · rename_i ρ2 h2
        split at e
        · rename_i ρ3 h3
          split at e
          · rename_i ρ4 h4
            exact ⟨x1, x2, x3, x4, ρ2, ρ3, ρ4, rfl, h2, h3, h4, e⟩
          · cases e
        · cases e
      · cases e
    | _ :: _ :: _ :: _ :: _ :: _, e => simp [Tg.put] at e
  | _ => simp [Tg.put] at e
theorem put_five {a b c d f : Tg} {x : D} {ρ ρ1 : Ro} (e : (Tg.five a b c d f).put x ρ = some ρ1) : ∃ x1 x2 x3 x4 x5 ρ2 ρ3 ρ4 ρ5, x = .tup [x1, x2, x3, x4, x5] ∧ a.put x1 ρ = some ρ2 ∧ b.put x2 ρ2 = some ρ3 ∧ c.put x3 ρ3 = some ρ4 ∧ d.put x4 ρ4 = some ρ5 ∧ f.put x5 ρ5 = some ρ1 := by
  cases x with
  | tup ds =>
    match ds, e with
    | [], e => simp [Tg.put] at e
    | [_], e => simp [Tg.put] at e
    | [_, _], e => simp [Tg.put] at e
    | [_, _, _], e => simp [Tg.put] at e
    | [_, _, _, _], e => simp [Tg.put] at e
    | [x1, x2, x3, x4, x5], e =>
      simp only [Tg.put] at e
      split at e
      · rename_i ρ2 h2
        split at e
        · rename_i ρ3 h3
          split at e
          · rename_i ρ4 h4
            split at e
            · rename_i ρ5 h5
              exact ⟨x1, x2, x3, x4, x5, ρ2, ρ3, ρ4, ρ5, rfl, h2, h3, h4, h5, e⟩
            · cases e
          · cases e
        · cases e
      · cases e
    | _ :: _ :: _ :: _ :: _ :: _ :: _, e => simp [Tg.put] at e
  | _ => simp [Tg.put] at e
theorem st_four {a b c d : Expr} {ta tb tc td : Tg} {k : Nat} (hc : X.calm = true) (ha : ST X C a ta) (hb : ST X C b tb) (hd : ST X C c tc) (he : ST X C d td) (hs1 : assignEach [a, b, c, d] X.env = (false, assign a X.env) :: assignEach [b, c, d] X.env := by rfl)
    (hs2 : assignEach [b, c, d] X.env = (false, assign b X.env) :: assignEach [c, d] X.env := by rfl) (hs3 : assignEach [c, d] X.env = (false, assign c X.env) :: assignEach [d] X.env := by rfl) (hs4 : assignEach [d] X.env = (false, assign d X.env) :: assignEach [] X.env := by rfl) : ST X C (.Tuple [a, b, c, d] k pos) (.four ta tb tc td) := by
  refine pg_imp (pg_tup (n := 4) hc (pgs_cons ha (pgs_cons hb (pgs_cons hd (pgs_cons he pgs_nil (by rw [hs4]; rfl)) (by rw [hs3]; rfl)) (by rw [hs2]; rfl)) (by rw [hs1]; rfl)) (by rw [hs1, hs2, hs3, hs4]; rfl) (by rw [hs1, hs2, hs3, hs4]; rfl)) ?_
  rintro v σ H Q ⟨F0, H0, F, ρ, g, x, ρ1, rel, r, e, k⟩
  obtain ⟨x1, x2, x3, x4, ρ2, ρ3, ρ4, rfl, e1, e2, e3, e4⟩ := put_four e
  cases r with
  | tup hf hz q =>
    cases q with
    | cons r1 q => cases q with
      | cons r2 q => cases q with
        | cons r3 q => cases q with
          | cons r4 q =>
            cases q
            refine ⟨_, _, rfl, SqT.of (rel.stp.le _ _ hf), rfl, _, _, rfl, F0, H0, F, ρ, g, _, ρ2, rel, r1, e1, fun σ1 o1 rel1 => ?_⟩
            refine ⟨_, _, rfl, F0, H0, F, ρ2, g, _, ρ3, rel1, r2, e2, fun σ2 o2 rel2 => ?_⟩
            refine ⟨_, _, rfl, F0, H0, F, ρ3, g, _, ρ4, rel2, r3, e3, fun σ3 o3 rel3 => ?_⟩
            exact ⟨_, _, rfl, F0, H0, F, ρ4, g, _, ρ1, rel3, r4, e4, fun σ4 o4 rel4 => ⟨rfl, k σ4 (o1.trans (o2.trans (o3.trans o4))) rel4⟩⟩
theorem st_five {a b c d f : Expr} {ta tb tc td tf : Tg} {k : Nat} (hc : X.calm = true) (ha : ST X C a ta) (hb : ST X C b tb) (hd : ST X C c tc) (he : ST X C d td) (hf : ST X C f tf) (hs1 : assignEach [a, b, c, d, f] X.env = (false, assign a X.env) :: assignEach [b, c, d, f] X.env := by rfl)
    (hs2 : assignEach [b, c, d, f] X.env = (false, assign b X.env) :: assignEach [c, d, f] X.env := by rfl) (hs3 : assignEach [c, d, f] X.env = (false, assign c X.env) :: assignEach [d, f] X.env := by rfl) (hs4 : assignEach [d, f] X.env = (false, assign d X.env) :: assignEach [f] X.env := by rfl)
    (hs5 : assignEach [f] X.env = (false, assign f X.env) :: assignEach [] X.env := by rfl) : ST X C (.Tuple [a, b, c, d, f] k pos) (.five ta tb tc td tf) := by
  refine pg_imp (pg_tup (n := 5) hc (pgs_cons ha (pgs_cons hb (pgs_cons hd (pgs_cons he (pgs_cons hf pgs_nil (by rw [hs5]; rfl)) (by rw [hs4]; rfl)) (by rw [hs3]; rfl)) (by rw [hs2]; rfl)) (by rw [hs1]; rfl)) (by rw [hs1, hs2, hs3, hs4, hs5]; rfl) (by rw [hs1, hs2, hs3, hs4, hs5]; rfl)) ?_
  rintro v σ H Q ⟨F0, H0, F, ρ, g, x, ρ1, rel, r, e, k⟩
  obtain ⟨x1, x2, x3, x4, x5, ρ2, ρ3, ρ4, ρ5, rfl, e1, e2, e3, e4, e5⟩ := put_five e
  cases r with
  | tup hq hz q =>
    cases q with
    | cons r1 q => cases q with
      | cons r2 q => cases q with
        | cons r3 q => cases q with
          | cons r4 q => cases q with
            | cons r5 q =>
              cases q
              refine ⟨_, _, rfl, SqT.of (rel.stp.le _ _ hq), rfl, _, _, rfl, F0, H0, F, ρ, g, _, ρ2, rel, r1, e1, fun σ1 o1 rel1 => ?_⟩
              refine ⟨_, _, rfl, F0, H0, F, ρ2, g, _, ρ3, rel1, r2, e2, fun σ2 o2 rel2 => ?_⟩
              refine ⟨_, _, rfl, F0, H0, F, ρ3, g, _, ρ4, rel2, r3, e3, fun σ3 o3 rel3 => ?_⟩
              refine ⟨_, _, rfl, F0, H0, F, ρ4, g, _, ρ5, rel3, r4, e4, fun σ4 o4 rel4 => ?_⟩
              exact ⟨_, _, rfl, F0, H0, F, ρ5, g, _, ρ1, rel4, r5, e5, fun σ5 o5 rel5 => ⟨rfl, k σ5 (o1.trans (o2.trans (o3.trans (o4.trans o5)))) rel5⟩⟩
theorem ss_unp {tg e : Expr} {t : Tg} {f : E} (he : SE X C W e f) (hg : ST X C tg t) (hs : swapsWithSole [tg] e pos.line X.env = pure false := by rfl) (hw : swappedStores [tg] e X.env = pure none := by rfl)
    (h1 : (assignEach [tg] X.env).map (·.2) = [assign tg X.env] := by rfl) : SS X C W (.Assign [tg] e pos) (sUnp t f) := by
  refine ps_imp (ps_asg he hg hs hw h1) ?_
  rintro D σ H ⟨F0, H0, F, ρ, g, rel, h⟩
  refine ⟨F0, H0, F, ρ, g, rel, onOk_mono (on_r rel (.refl F) h) (fun b g1 h1 v F1 H1 a1 r1 => ?_) fun x g1 h1 => h1⟩
  split at h1
  · exact h1.elim
  · rename_i nb
    obtain ⟨F2, a2, r2, l2⟩ := r1.freeze a1 (fun z => nb z)
    split at h1
    · rename_i ρ1 e1
      exact ⟨F0, H0, F2, ρ, g1, b.d, ρ1, rel.step a2, r2, e1, fun σ1 _ rel1 => h1 σ1 F2 H1 a2.stp.ff rel1⟩
    · exact h1.elim

/-! ### what is walked -/
/-- the turns give the data ds, F1 being shared; while Gd holds of the heap -/
def WalkD (C : Cs) (J : L2.It) (ds : List D) (F1 : Hp) (Gd : Hp → Prop) : Prop := Walk J ds.length Gd (fun i H v H' => ∀ F, Le F1 F → Le F H → ∃ F' d, Quiet C F H F' H' ∧ ds[i]? = some d ∧ Rep C F' v d)
/-- for a for loop: the heap may change, but for what is shared -/
def tI (C : Cs) (W : WX) (f : It) : TI := fun σ H R => ∃ F0 H0 F ρ g, Rel C F0 H0 F ρ g σ H ∧
  onOk (f ρ g) (fun ds g' => ∀ J F' H', After C F H g' F' H' → WalkD C J ds F' (fun H => Le F' H) → R J H') (fun x g' => ∀ cls d F' H', After C F H g' F' H' → ExR C F' x cls d → W cls d σ H')
/-- for a comprehension: nothing that stands changes -/
def tIc (C : Cs) (W : WX) (f : It) : TI := fun σ H R => ∃ F0 H0 F ρ g, Rel C F0 H0 F ρ g σ H ∧
  onOk (f ρ g) (fun ds g' => ∀ J F' H', After C F H g' F' H' → WalkD C J ds F' (fun Hx => ∃ Fx, Stp C F' H' Fx Hx) → R J H') (fun x g' => ∀ cls d F' H', After C F H g' F' H' → ExR C F' x cls d → W cls d σ H')
abbrev SI (X : Cx) (C : Cs) (W : WX) (tg e : Expr) (f : It) : Prop := PI X tg e (tI C W f)
abbrev SIc (X : Cx) (C : Cs) (W : WX) (tg e : Expr) (f : It) : Prop := PI X tg e (tIc C W f)
theorem pi_imp {X : Cx} {tg e : Expr} {t t' : TI} (h : PI X tg e t) (i : ∀ σ H Q, t' σ H Q → t σ H Q) : PI X tg e t' := ⟨fun pins s σ H Q I q => h.run pins s σ H Q I (i _ _ _ q)⟩
theorem pi_two {tg e : Expr} {t1 t2 : TI} (h1 : PI X tg e t1) (h2 : PI X tg e t2) : PI X tg e (fun σ H Q => t1 σ H Q ∨ t2 σ H Q) := ⟨fun pins s σ H Q I q => q.elim (h1.run pins s σ H Q I) (h2.run pins s σ H Q I)⟩
theorem sic_of {tg e : Expr} {f : It} (h : SI X C W tg e f) : SIc X C W tg e f := by
  refine pi_imp h ?_
  rintro σ H R ⟨F0, H0, F, ρ, g, rel, h⟩
  refine ⟨F0, H0, F, ρ, g, rel, onOk_mono h (fun ds g1 h1 J F1 H1 a1 w => h1 J F1 H1 a1 (w.mono (fun H s => ?_) fun i H x H' _ _ y => y)) fun x g1 h1 => h1⟩
  obtain ⟨Fx, s⟩ := s
  exact s.ff.trans s.le
/-- what the walk of xs tells where xs lies as ds -/
theorem walk_at {F F1 H : Hp} {xs : List V} {ds : List D} (r : Reps C F1 xs ds) {i : Nat} {v : V} (h : xs[i]? = some v) (l1 : Le F1 F) (l : Le F H) : ∃ F' d, Quiet C F H F' H ∧ ds[i]? = some d ∧ Rep C F' v d := by
  obtain ⟨d, h1, h2⟩ := r.getV h
  exact ⟨F, d, .refl l, h1, h2.le l1⟩
theorem walkD_list {K : PySem.W.Frag} {a : Addr} {F1 : Hp} {xs : List V} {ds : List D} {Gd : Hp → Prop} (r : Reps C F1 xs ds) (hG : ∀ H, Gd H → SqL K H a xs) : WalkD C (Itl K a) ds F1 Gd := by
  unfold WalkD
  rw [← r.length]
  exact walk_list.mono hG fun i H x H' _ _ y F l1 l => by obtain ⟨rfl, h⟩ := y; exact walk_at r h l1 l
theorem walkD_tup {K : PySem.W.Frag} {a : Addr} {F1 : Hp} {xs : List V} {ds : List D} {Gd : Hp → Prop} (r : Reps C F1 xs ds) (hG : ∀ H, Gd H → SqT K H a xs) : WalkD C (Itt K a) ds F1 Gd := by
  unfold WalkD
  rw [← r.length]
  exact walk_tup.mono hG fun i H x H' _ _ y F l1 l => by obtain ⟨rfl, h⟩ := y; exact walk_at r h l1 l
theorem range_at : ∀ (n i : Nat) (lo : Int), i < n → (rangeD lo n)[i]? = some (.int (lo + i))
  | 0, _, _, h => absurd h (Nat.not_lt_zero _)
  | n + 1, 0, lo, _ => by simp [rangeD]
  | n + 1, i + 1, lo, h => by
    rw [rangeD, List.getElem?_cons_succ, range_at n i (lo + 1) (by omega)]
    congr 2
    omega
theorem range_len : ∀ (n : Nat) (lo : Int), (rangeD lo n).length = n
  | 0, _ => rfl
  | n + 1, lo => by rw [rangeD, List.length_cons, range_len n]
theorem walkD_range {lo : Int} {n : Nat} {F1 : Hp} {Gd : Hp → Prop} : WalkD C (Itr lo n) (rangeD lo n) F1 Gd := by
  unfold WalkD
  rw [range_len]
  exact walk_range.mono (fun _ _ => trivial) fun i H x H' hi _ y F l1 l => by
    obtain ⟨rfl, rfl⟩ := y
    exact ⟨F, _, .refl l, range_at n i lo hi, .int _⟩
section
variable {tg e : Expr} {f : E}
/-- a list or a tuple -/
theorem si_seq (he : SE X C W e f) : SI X C W tg e (iSeq f) := by
  refine pi_imp (pi_two (pi_list he) (pi_tup he)) ?_
  rintro σ H R ⟨F0, H0, F, ρ, g, rel, h⟩
  unfold iSeq at h
  rw [onOk_bind] at h
  -- which of the two it is
  cases q : f ρ g with
  | er x g1 => rw [q] at h; exact .inl ⟨F0, H0, F, ρ, g, rel, by rw [q]; exact h⟩
  | no => rw [q] at h; exact h.elim
  | ok b g1 =>
    rw [q] at h
    obtain ⟨t, d⟩ := b
    cases d with
    | lst ds =>
      refine .inl ⟨F0, H0, F, ρ, g, rel, ?_⟩
      rw [q]
      intro v F1 H1 a1 r1
      have nb : t ≠ .bw := fun z => by subst z; exact h.elim
      obtain ⟨F2, a2, r2, l2⟩ := r1.freeze a1 nb
      have h : ∀ J F' H', After C F H g1 F' H' → WalkD C J ds F' (fun H => Le F' H) → R J H' := by cases t <;> first | exact h | exact h.elim
      cases r2 with
      | lst hf hz rr =>
        exact ⟨_, rfl, ⟨_, SqL.of (a2.stp.le _ _ hf)⟩, h _ F2 H1 a2 (walkD_list rr fun H l => SqL.of (l _ _ hf))⟩
    | tup ds =>
      refine .inr ⟨F0, H0, F, ρ, g, rel, ?_⟩
      rw [q]
      intro v F1 H1 a1 r1
      have nb : t ≠ .bw := fun z => by subst z; exact h.elim
      obtain ⟨F2, a2, r2, l2⟩ := r1.freeze a1 nb
      have h : ∀ J F' H', After C F H g1 F' H' → WalkD C J ds F' (fun H => Le F' H) → R J H' := by cases t <;> first | exact h | exact h.elim
      cases r2 with
      | tup hf hz rr =>
        exact ⟨_, rfl, ⟨_, SqT.of (a2.stp.le _ _ hf)⟩, h _ F2 H1 a2 (walkD_tup rr fun H l => SqT.of (l _ _ hf))⟩
    | _ => cases t <;> exact h.elim
/-- the same in a comprehension, a list that is borrowed too -/
theorem sic_seq (he : SE X C W e f) : SIc X C W tg e (iSeqB f) := by
  refine pi_imp (pi_two (pi_list he) (pi_tup he)) ?_
  rintro σ H R ⟨F0, H0, F, ρ, g, rel, h⟩
  unfold iSeqB at h
  rw [onOk_bind] at h
  cases q : f ρ g with
  | er x g1 => rw [q] at h; exact .inl ⟨F0, H0, F, ρ, g, rel, by rw [q]; exact h⟩
  | no => rw [q] at h; exact h.elim
  | ok b g1 =>
    rw [q] at h
    obtain ⟨t, d⟩ := b
    cases d with
    | lst ds =>
      refine .inl ⟨F0, H0, F, ρ, g, rel, ?_⟩
      rw [q]
      intro v F1 H1 a1 r1
      rcases r1.ro with r | ⟨p, rfl, fr, ns, t⟩
      · cases r with
        | lst hf hz rr =>
          refine ⟨_, rfl, ⟨_, SqL.of (a1.stp.le _ _ hf)⟩, h _ F1 H1 a1 (walkD_list rr fun H s => ?_)⟩
          obtain ⟨Fx, s⟩ := s
          exact SqL.of (s.le _ _ (s.ff _ _ hf))
      · cases t with
        | lst hp hz rr =>
          refine ⟨_, rfl, ⟨_, SqL.of hp⟩, h _ F1 H1 a1 (walkD_list rr fun H s => ?_)⟩
          obtain ⟨Fx, s⟩ := s
          exact SqL.of (s.keep _ _ hp ns fun _ q => by cases q)
    | tup ds =>
      refine .inr ⟨F0, H0, F, ρ, g, rel, ?_⟩
      rw [q]
      intro v F1 H1 a1 r1
      obtain ⟨p, vs, rfl, hf, hp, hz, rr⟩ := ro_tup a1.stp.le r1.ro
      refine ⟨_, rfl, ⟨_, SqT.of hp⟩, h _ F1 H1 a1 (walkD_tup rr fun H s => ?_)⟩
      obtain ⟨Fx, s⟩ := s
      exact SqT.of (s.le _ _ (s.ff _ _ hf))
    | _ => exact h.elim
theorem small_of {i : Int} (h : smallI i = true) : -(2 ^ 62) ≤ i ∧ i < 2 ^ 62 := of_decide_eq_true h
theorem si_range1 {p pos : Pos} (hg : Gl X "range") (hm : X.mg "range" = none) (he : SE X C W e f) (hs : starEach [e] X.env = (false, eval e X.env) :: starEach [] X.env := by rfl) : SI X C W tg (.Call (.Name "range" p) [e] [] pos) (iRange1 f) := by
  refine pi_imp (pi_range1 hg hm (pa_cons he pa_nil hs) (by rw [hs]; rfl)) ?_
  rintro σ H R ⟨F0, H0, F, ρ, g, rel, h⟩
  unfold iRange1 at h
  rw [onOk_bind] at h
  refine ⟨F0, H0, F, ρ, g, rel, onOk_mono h (fun b g1 h1 v F1 H1 a1 r1 => ?_) fun x g1 h1 => h1⟩
  split at h1
  · rename_i n e
    have r := r1.ro
    rw [e] at r
    rw [ro_int r]
    split at h1
    · rename_i hz
      obtain ⟨z1, z2⟩ := small_of hz
      exact ⟨n, rfl, z1, z2, h1 _ F1 H1 a1 walkD_range⟩
    · exact h1.elim
  · exact h1.elim
theorem si_range2 {p pos : Pos} {e2 : Expr} {f2 : E} (hg : Gl X "range") (hm : X.mg "range" = none) (he : SE X C W e f) (he2 : SE X C W e2 f2) (hs : starEach [e, e2] X.env = (false, eval e X.env) :: starEach [e2] X.env := by rfl) (hs2 : starEach [e2] X.env = (false, eval e2 X.env) :: starEach [] X.env := by rfl) :
    SI X C W tg (.Call (.Name "range" p) [e, e2] [] pos) (iRange2 f f2) := by
  refine pi_imp (pi_range2 hg hm (pa_cons he (pa_cons he2 pa_nil hs2) hs) (by rw [hs, hs2]; rfl) (by rw [hs2]; rfl)) ?_
  rintro σ H R ⟨F0, H0, F, ρ, g, rel, h⟩
  unfold iRange2 at h
  rw [onOk_bind] at h
  refine ⟨F0, H0, F, ρ, g, rel, onOk_mono h (fun b g1 h1 v F1 H1 a1 r1 => ?_) fun x g1 h1 => h1⟩
  rw [onOk_bind] at h1
  have rel1 := rel.step a1
  refine ⟨F0, H0, F1, ρ, g1, rel1, onOk_mono h1 (fun c g2 h2 w F2 H2 a2 r2 => ?_) fun x g2 h2 cls d F2 H2 a2 e2 => h2 cls d F2 H2 (a1.trans a2) e2⟩
  split at h2
  · rename_i a n ea en
    have ra := r1.ro
    rw [ea] at ra
    have rn := r2.ro
    rw [en] at rn
    rw [ro_int ra, ro_int rn]
    split at h2
    · rename_i hz
      rw [Bool.and_eq_true] at hz
      obtain ⟨z1, z2⟩ := small_of hz.1
      obtain ⟨z3, z4⟩ := small_of hz.2
      exact ⟨a, n, rfl, ⟨z1, z2, z3, z4⟩, h2 _ F2 H2 (a1.trans a2) walkD_range⟩
    · exact h2.elim
  · exact h2.elim
end

/-! ### loops -/
theorem drop_step {ds : List D} {i : Nat} {d : D} (h : ds[i]? = some d) : ds.drop i = d :: ds.drop (i + 1) := by
  obtain ⟨hi, rfl⟩ := List.getElem?_eq_some_iff.mp h
  exact List.drop_eq_getElem_cons hi
theorem ss_for {tg iter : Expr} {body : List Stmt} {it : It} {t : Tg} {b : S} (hp : PassesOwn (model X.prog X.w) X.A X.env X.xe) (hc : X.calm = true) (hi : SI X C W tg iter it) (hg : ST X C tg t) (hb : SSs X C W body b)
    (hs : ∀ x, foldedSetIterable iter X.env x = pure x := by intro _; rfl) : SS X C W (.For tg iter body [] pos) (sFor it t b) := by
  refine ps_imp (ps_for hp hc hi hg hb hs) ?_
  rintro D σ H ⟨F0, H0, F, ρ, g, rel, h⟩
  unfold sFor at h
  refine ⟨F0, H0, F, ρ, g, rel, ?_⟩
  cases q : it ρ g with
  | er x g1 => rw [q] at h; exact fun cls d F' H' a e => h cls d σ F' H' a.stp.ff (rel.step a) e
  | no => rw [q] at h; exact h
  | ok ds g1 =>
    rw [q] at h
    intro J F1 H1 a1 wk
    have wk : WalkD C J ds F1 (fun H => Le F1 H) := wk
    have h : PostS C W F0 H0 F D (forL t b ds ρ g1) := h
    refine for_it wk (fun i σ H => ∃ F ρ g, Le F1 F ∧ Rel C F0 H0 F ρ g σ H ∧ PostS C W F0 H0 F D (forL t b (ds.drop i) ρ g)) ?_ (fun i σ H _ hh => ?_) (fun i x σ H H' hi hh y => ?_) (fun σ H hh => ?_)
    · exact ⟨F1, ρ, g1, .refl _, rel.step a1, h.up a1.stp.ff⟩
    · obtain ⟨F, ρ, g, l1, r, _⟩ := hh
      exact l1.trans r.stp.le
    · obtain ⟨F, ρ, g, l1, r, p⟩ := hh
      obtain ⟨F', d, qt, e, rd⟩ := y F l1 r.stp.le
      rw [drop_step e] at p
      have r' := r.step (r.after.quiet qt)
      have p := p.up qt.stp.ff
      have l' := l1.trans qt.stp.ff
      unfold forL at p
      split at p
      · exact p.elim
      · rename_i ρ1 e1
        refine ⟨F0, H0, F', ρ, g, d, ρ1, r', rd, e1, fun σ1 _ rel1 => ⟨F0, H0, F', ρ1, g, rel1, ?_⟩⟩
        split at p
        · rename_i ρ2 g2 q2
          rw [q2]
          exact fun σ F H l r => ⟨F, _, _, l'.trans l, r, p.up l⟩
        · rename_i ρ2 g2 q2
          rw [q2]
          exact fun σ F H l r => ⟨F, _, _, l'.trans l, r, p.up l⟩
        · rename_i ρ2 g2 q2
          rw [q2]
          exact p
        · rename_i n1 n2 n3
          cases q2 : b ρ1 g with
          | nx ρ2 g2 => exact absurd q2 (n1 _ _)
          | ct ρ2 g2 => exact absurd q2 (n2 _ _)
          | bk ρ2 g2 => exact absurd q2 (n3 _ _)
          | rt b2 g2 => rw [q2] at p; exact p
          | er x2 ρ2 g2 => rw [q2] at p; exact p
          | no => rw [q2] at p; exact p
    · obtain ⟨F, ρ, g, l1, r, p⟩ := hh
      rw [List.drop_length] at p
      exact p σ F H (.refl _) r
theorem ss_while {c : Expr} {body : List Stmt} {k : E} {b : S} (hp : PassesOwn (model X.prog X.w) X.A X.env X.xe) (hc : SB X C W c k) (hb : SSs X C W body b) : SS X C W (.While c body [] pos) (sWhile k b) := by
  refine ps_imp (ps_while hp hc hb) ?_
  rintro D σ H ⟨F0, H0, F, ρ, g, rel, h⟩
  refine ⟨fun n σ H => ∃ F ρ g, Rel C F0 H0 F ρ g σ H ∧ PostS C W F0 H0 F D (whileF k b n ρ g), ⟨FUEL, F, ρ, g, rel, h⟩, ?_⟩
  rintro n σ H ⟨F, ρ, g, rel, h⟩
  cases n with
  | zero => exact h.elim
  | succ n =>
    unfold whileF at h
    refine ⟨F0, H0, F, ρ, g, rel, onOk_mono (on_r rel (.refl F) h) (fun x g1 h1 => ?_) fun x g1 h1 => h1⟩
    split at h1
    · refine ⟨true, rfl, fun F1 H1 a1 => ?_⟩
      refine iteT ?_
      refine ⟨fun σ H => ∃ F ρ g, Rel C F0 H0 F ρ g σ H ∧ PostS C W F0 H0 F D (whileF k b n ρ g), fun σ' H' z => ⟨n, Nat.lt_succ_self n, z⟩, F0, H0, F1, ρ, g1, rel.step a1, ?_⟩
      have p := h1.up a1.stp.ff
      split at p
      · rename_i ρ2 g2 q2
        rw [q2]
        exact fun σ F H l r => ⟨F, _, _, r, p.up l⟩
      · rename_i ρ2 g2 q2
        rw [q2]
        exact fun σ F H l r => ⟨F, _, _, r, p.up l⟩
      · rename_i ρ2 g2 q2
        rw [q2]
        exact p
      · rename_i n1 n2 n3
        cases q2 : b ρ g1 with
        | nx ρ2 g2 => exact absurd q2 (n1 _ _)
        | ct ρ2 g2 => exact absurd q2 (n2 _ _)
        | bk ρ2 g2 => exact absurd q2 (n3 _ _)
        | rt b2 g2 => rw [q2] at p; exact p
        | er x2 ρ2 g2 => rw [q2] at p; exact p
        | no => rw [q2] at p; exact p
    · refine ⟨false, rfl, fun F1 H1 a1 => ?_⟩
      refine iteF ?_
      exact h1 σ F1 H1 a1.stp.ff (rel.step a1)
    · exact h1.elim
end
end Sx

set_option Elab.async false
set_option linter.all false
set_option maxRecDepth 100000
set_option maxHeartbeats 4000000
/-! Sx8: changes of own containers, comprehensions, defs by their bodies. -/
namespace Sx
open PySem PySem.Spec PyProof.Rows L2
section
variable {X : Cx} {C : Cs} {W : WX} {pos : Pos}
/-- not a table, not a code object -/
def PlainO : HO → Prop
  | .lst _ => True | .tup _ => True | .dK _ => True | .dT _ => True | _ => False
theorem tabs_upd {F H : Hp} {a : Addr} {o o' : HO} (h : TabsC C F H) (ha : H a = some o) (p : PlainO o) : TabsC C F (upd H a o') := ⟨fun q hq => by
  obtain ⟨ps, h1, h2, h3⟩ := h.1 q hq
  have n1 : q.1 ≠ a := fun z => by rw [z, ha] at h1; cases h1; exact p
  refine ⟨ps, by rw [upd_ne n1]; exact h1, h2, fun pos cv hc => ?_⟩
  obtain ⟨c, e, hcc⟩ := h3 pos cv hc
  have n2 : c ≠ a := fun z => by rw [z, ha] at hcc; cases hcc; exact p
  exact ⟨c, e, by rw [upd_ne n2]; exact hcc⟩, fun q hq => by
  have hcc := h.2 q hq
  have n2 : q.1 ≠ a := fun z => by rw [z, ha] at hcc; cases hcc; exact p
  rw [upd_ne n2]; exact hcc, h.3⟩
theorem StOk.upd {F H : Hp} {g : G} {a : Addr} {o : HO} (s : StOk C F g H) (n : ¬ InSt C a) : StOk C F g (upd H a o) := by
  unfold StOk at s ⊢
  unfold InSt at n
  cases e : C.st with
  | none => trivial
  | some t =>
    obtain ⟨x, y, z⟩ := t
    rw [e] at s n
    cases g with
    | none => exact s
    | some gs =>
      obtain ⟨h1, h2, h3, n1, n2, n3, f1, f2, f3⟩ := s
      refine ⟨?_, ?_, ?_, n1, n2, n3, f1, f2, f3⟩
      · rw [upd_ne (fun q => n (.inl q.symm))]; exact h1
      · rw [upd_ne (fun q => n (.inr (.inl q.symm)))]; exact h2
      · rw [upd_ne (fun q => n (.inr (.inr q.symm)))]; exact h3
theorem Top.other {F H : Hp} {a b : Addr} {d : D} {o : HO} (t : Top C F H a d) (n : a ≠ b) : Top C F (upd H b o) a d := by
  cases t with
  | lst h z r => exact .lst (by rw [upd_ne n]; exact h) z r
  | dk h r => exact .dk (by rw [upd_ne n]; exact h) r
  | dt h r => exact .dt (by rw [upd_ne n]; exact h) r
theorem Top.plain {F H : Hp} {a : Addr} {d : D} (t : Top C F H a d) : ∃ o, H a = some o ∧ PlainO o := by
  cases t with
  | lst h _ _ => exact ⟨_, h, trivial⟩
  | dk h _ => exact ⟨_, h, trivial⟩
  | dt h _ => exact ⟨_, h, trivial⟩
/-- an own container is changed -/
theorem Rel.mut {F0 H0 F H : Hp} {ρ : Ro} {g : G} {σ : L2.St} {i : Nat} {d d1 : D} {a : Addr} {o : HO} (rel : Rel C F0 H0 F ρ g σ H) (hi : ρ[i]? = some (some (ow d))) (hs : σ[i]? = some (some (.ref a))) (ht : Top C F (upd H a o) a d1) :
    Rel C F0 H0 F (ρ.set i (some (ow d1))) g σ (upd H a o) := by
  obtain ⟨v, h1, r⟩ := rel.slot i _ hi
  rw [hs] at h1
  cases h1
  obtain ⟨p, hp, own⟩ : ∃ a', H0 a' = none ∧ Own C F H (.ref a) a' d := r
  have e := own.v
  cases e
  obtain ⟨u, hu, pl⟩ := own.top.plain
  have hl : i < ρ.length := (List.getElem?_eq_some_iff.mp hi).1
  refine ⟨⟨rel.stp.ff, fun c z h => ?_, fun c z h n t => ?_, fun c h => ?_, rel.stp.priv⟩, rel.st.upd own.ns, tabs_upd rel.tabs hu pl, by rw [List.length_set]; exact rel.len, fun j c h => ?_, fun j k bj bk x hj hk tj tk sj sk => ?_, rel.ent⟩
  · rw [upd_ne (fun q => by subst q; rw [own.fr] at h; cases h)]; exact rel.stp.le c z h
  · rw [upd_ne (fun q => by subst q; rw [hp] at h; cases h)]; exact rel.stp.keep c z h n t
  · by_cases q : c = a
    · subst q; rw [upd_same]; simp
    · rw [upd_ne q]; exact rel.stp.there c h
  · by_cases q : i = j
    · subst q
      rw [List.getElem?_set_self hl] at h
      cases h
      exact ⟨_, hs, a, hp, rfl, own.fr, own.ns, ht⟩
    · rw [List.getElem?_set_ne q] at h
      obtain ⟨w, hw, rw'⟩ := rel.slot j c h
      refine ⟨w, hw, ?_⟩
      unfold RS at rw' ⊢
      cases ec : c.t with
      | sh => rw [ec] at rw'; exact rw'
      | bw => rw [ec] at rw'; exact rw'
      | ow =>
        rw [ec] at rw'
        obtain ⟨x, hx, rfl, f2, n2, t2⟩ := rw'
        have ne : x ≠ a := fun z => by subst z; exact q (rel.dis i j _ c x hi h rfl ec hs hw)
        exact ⟨x, hx, rfl, f2, n2, t2.other ne⟩
  · have back : ∀ (m : Nat) (b : B), (ρ.set i (some (ow d1)))[m]? = some (some b) → ∃ b', ρ[m]? = some (some b') ∧ b'.t = b.t := fun m b h => by
      by_cases q : i = m
      · subst q
        rw [List.getElem?_set_self hl] at h
        cases h
        exact ⟨_, hi, rfl⟩
      · rw [List.getElem?_set_ne q] at h
        exact ⟨b, h, rfl⟩
    obtain ⟨b1, e1, t1⟩ := back j bj hj
    obtain ⟨b2, e2, t2⟩ := back k bk hk
    exact rel.dis j k b1 b2 x e1 e2 (t1.trans tj) (t2.trans tk) sj sk
/-- the own container of a slot -/
theorem Rel.own {F0 H0 F H : Hp} {ρ : Ro} {g : G} {σ : L2.St} {i : Nat} {d : D} (rel : Rel C F0 H0 F ρ g σ H) (hi : ρ[i]? = some (some (ow d))) : ∃ a, σ[i]? = some (some (.ref a)) ∧ Own C F H (.ref a) a d ∧ H0 a = none := by
  obtain ⟨v, h1, r⟩ := rel.slot i _ hi
  obtain ⟨p, hp, own⟩ : ∃ a', H0 a' = none ∧ Own C F H v a' d := r
  have e := own.v
  subst e
  exact ⟨p, h1, own, hp⟩
theorem Own.lst {F H : Hp} {v : V} {a : Addr} {ds : List D} (o : Own C F H v a (.lst ds)) : ∃ vs, H a = some (.lst vs) ∧ vs.length ≤ sizeLine ∧ Reps C F vs ds := by
  cases o.top with
  | lst h z r => exact ⟨_, h, z, r⟩
theorem lim_lt {n : Nat} (h : n < LIM) : n < sizeLine := by rw [sizeLine_eq]; unfold LIM at h; omega
section
variable {x : Str} {p apos cpos : Pos} {e e2 : Expr} {f f2 : E} {i : Nat}
/-- a method of one argument that changes the list -/
theorem mutL_of {o : List D → D → Option (List D)} {r : V → List V → Hp → VK → Prop} (hr : ∀ (F H : Hp) (a : Addr) (vs : List V) (ds ds1 : List D) (y : V) (b : D) (Q : VK), Le F H → H a = some (.lst vs) → vs.length ≤ sizeLine → Reps C F vs ds → Rep C F y b → o ds b = some ds1 →
      (∀ vs1, vs1.length ≤ sizeLine → Reps C F vs1 ds1 → Q .non (upd H a (.lst vs1))) → r (.ref a) [y] H Q)
    {D' : Ends} {σ : L2.St} {H : Hp} (t : tS C W (sMutL i o f) D' σ H) : tDrop (tBM X.K "list" r (tVar i) (tCons (tE C W f) tNil)) D' σ H := by
  obtain ⟨F0, H0, F, ρ, g, rel, h⟩ := t
  rw [sMutL_0] at h
  unfold sMutL0 at h
  split at h
  · rename_i ds hq
    obtain ⟨a, hs, own, ha0⟩ := rel.own hq
    obtain ⟨vs0, hv0, _, _⟩ := own.lst
    refine ⟨.ref a, hs, .inl ⟨rfl, _, SqL.of hv0⟩, F0, H0, F, ρ, g, rel, onOk_mono (on_r rel (.refl F) h) (fun b g1 h1 y F1 H1 a1 r1 => ?_) fun x g1 h1 => h1⟩
    split at h1
    · exact h1.elim
    · rename_i nb
      obtain ⟨F2, a2, r2, l2⟩ := r1.freeze a1 (fun z => nb z)
      have rel2 := rel.step a2
      obtain ⟨a', hs', own2, _⟩ := rel2.own hq
      rw [hs] at hs'
      cases hs'
      obtain ⟨vs, hv, hz, rv⟩ := own2.lst
      split at h1
      · rename_i ds1 e1
        refine hr F2 H1 a vs ds ds1 y b.d _ a2.stp.le hv hz rv r2 e1 fun vs1 z1 rv1 => ?_
        exact h1 σ F2 _ a2.stp.ff (rel2.mut hq hs (.lst upd_same z1 rv1))
      · exact h1.elim
  · exact h.elim
/-- x.append(e) -/
theorem ss_append (he : SE X C W e f) (hN : X.N[i]? = some x := by rfl) (hv : Vis X.env.scope x := by first | exact Or.inl rfl | exact Or.inr (Or.inl rfl) | exact Or.inr (Or.inr rfl)) (hd : (x == ("__debug__" : Str)) = false := by decide) (hcd : (x == ("__classdict__" : Str)) = false := by decide)
    (hbase : attributeBase (.Name x p) "append" X.env (eval (.Name x p) X.env) = eval (.Name x p) X.env := by rfl)
    (hfew : ((backTo cpos (starEach [e] X.env)).all (fun x => !x.1) && (backToKw cpos (keywordEach [] X.env)).all (fun x => x.1.isSome) && decide ([e].length + ([] : List Keyword).length + (if ([] : List Keyword).isEmpty then 0 else 1) < 30)) = true := by rfl)
    (hline : (apos.endLine == cpos.line) = true := by rfl) (hs : starEach [e] X.env = (false, eval e X.env) :: starEach [] X.env := by rfl) (hplain : (backTo cpos (starEach [] X.env)).any (·.1) = false := by rfl)
    (hsw : swapsWith (.Call (.Attribute (.Name x p) "append" apos) [e] [] cpos) none pos.line X.env = pure false := by rfl) : SS X C W (.Expr (.Call (.Attribute (.Name x p) "append" apos) [e] [] cpos) pos) (sMutL i mAppend f) := by
  refine ps_imp (ps_expr (pe_bm PySem.F.plainAttrs_list PySem.F.slot_list_append PySem.F.type_list_append mt_append (pe_var hN hv hd hcd) (pa_cons he pa_nil hs) hbase hfew hline hs hplain) hsw) fun D σ H t => ?_
  refine mutL_of (fun F H a vs ds ds1 y b Q l ha hz rv ry e k => ?_) t
  unfold mAppend at e
  split at e
  · rename_i hl
    cases e
    have hl2 : vs.length < sizeLine := lim_lt (by rw [rv.length]; exact hl)
    exact ⟨a, vs, y, rfl, rfl, ha, hl2, k _ (by rw [List.length_append]; exact hl2) (rv.snoc ry)⟩
  · cases e
/-- x.extend(e) -/
theorem ss_extend (he : SE X C W e f) (hN : X.N[i]? = some x := by rfl) (hv : Vis X.env.scope x := by first | exact Or.inl rfl | exact Or.inr (Or.inl rfl) | exact Or.inr (Or.inr rfl)) (hd : (x == ("__debug__" : Str)) = false := by decide) (hcd : (x == ("__classdict__" : Str)) = false := by decide)
    (hbase : attributeBase (.Name x p) "extend" X.env (eval (.Name x p) X.env) = eval (.Name x p) X.env := by rfl)
    (hfew : ((backTo cpos (starEach [e] X.env)).all (fun x => !x.1) && (backToKw cpos (keywordEach [] X.env)).all (fun x => x.1.isSome) && decide ([e].length + ([] : List Keyword).length + (if ([] : List Keyword).isEmpty then 0 else 1) < 30)) = true := by rfl)
    (hline : (apos.endLine == cpos.line) = true := by rfl) (hs : starEach [e] X.env = (false, eval e X.env) :: starEach [] X.env := by rfl) (hplain : (backTo cpos (starEach [] X.env)).any (·.1) = false := by rfl)
    (hsw : swapsWith (.Call (.Attribute (.Name x p) "extend" apos) [e] [] cpos) none pos.line X.env = pure false := by rfl) : SS X C W (.Expr (.Call (.Attribute (.Name x p) "extend" apos) [e] [] cpos) pos) (sMutL i mExtend f) := by
  refine ps_imp (ps_expr (pe_bm PySem.F.plainAttrs_list PySem.F.slot_list_extend PySem.F.type_list_extend mt_extend (pe_var hN hv hd hcd) (pa_cons he pa_nil hs) hbase hfew hline hs hplain) hsw) fun D σ H t => ?_
  refine mutL_of (fun F H a vs ds ds1 y b Q l ha hz rv ry e k => ?_) t
  cases b <;> try (simp [mExtend] at e; done)
  rename_i ys
  simp only [mExtend] at e
  split at e
  · rename_i hl
    cases e
    cases ry with
    | lst hf hy rr =>
      rename_i c ws
      have hl2 : vs.length + ws.length ≤ sizeLine := sizeL (by rw [rv.length, rr.length]; exact hl)
      exact ⟨a, c, vs, ws, rfl, rfl, ha, l _ _ hf, hl2, k _ (by rw [List.length_append]; exact hl2) (rv.append rr)⟩
  · cases e
/-- x.reverse() -/
theorem ss_reverse (hN : X.N[i]? = some x := by rfl) (hv : Vis X.env.scope x := by first | exact Or.inl rfl | exact Or.inr (Or.inl rfl) | exact Or.inr (Or.inr rfl)) (hd : (x == ("__debug__" : Str)) = false := by decide) (hcd : (x == ("__classdict__" : Str)) = false := by decide)
    (hbase : attributeBase (.Name x p) "reverse" X.env (eval (.Name x p) X.env) = eval (.Name x p) X.env := by rfl) (hline : (apos.endLine == cpos.line) = true := by rfl)
    (hsw : swapsWith (.Call (.Attribute (.Name x p) "reverse" apos) [] [] cpos) none pos.line X.env = pure false := by rfl) : SS X C W (.Expr (.Call (.Attribute (.Name x p) "reverse" apos) [] [] cpos) pos) (sReverse i) := by
  refine ps_imp (ps_expr (pe_bm0 PySem.F.plainAttrs_list PySem.F.slot_list_reverse PySem.F.type_list_reverse mt_reverse (pe_var hN hv hd hcd) hbase hline) hsw) ?_
  rintro D σ H ⟨F0, H0, F, ρ, g, rel, h⟩
  unfold sReverse at h
  split at h
  · rename_i ds hq
    obtain ⟨a, hs, own, ha0⟩ := rel.own hq
    obtain ⟨vs, hv, hz, rv⟩ := own.lst
    refine ⟨.ref a, hs, .inl ⟨rfl, _, SqL.of hv⟩, a, vs, rfl, rfl, hv, ?_⟩
    exact h σ F _ (.refl F) (rel.mut hq hs (.lst upd_same (by rw [List.length_reverse]; exact hz) rv.reverse))
  · exact h.elim
/-- x.insert(e, e2) -/
theorem ss_insert (he : SE X C W e f) (he2 : SE X C W e2 f2) (hN : X.N[i]? = some x := by rfl) (hv : Vis X.env.scope x := by first | exact Or.inl rfl | exact Or.inr (Or.inl rfl) | exact Or.inr (Or.inr rfl)) (hd : (x == ("__debug__" : Str)) = false := by decide) (hcd : (x == ("__classdict__" : Str)) = false := by decide)
    (hbase : attributeBase (.Name x p) "insert" X.env (eval (.Name x p) X.env) = eval (.Name x p) X.env := by rfl)
    (hfew : ((backTo cpos (starEach [e, e2] X.env)).all (fun x => !x.1) && (backToKw cpos (keywordEach [] X.env)).all (fun x => x.1.isSome) && decide ([e, e2].length + ([] : List Keyword).length + (if ([] : List Keyword).isEmpty then 0 else 1) < 30)) = true := by rfl)
    (hline : (apos.endLine == cpos.line) = true := by rfl) (hs : starEach [e, e2] X.env = (false, eval e X.env) :: starEach [e2] X.env := by rfl) (hs2 : starEach [e2] X.env = (false, eval e2 X.env) :: starEach [] X.env := by rfl) (hplain : (backTo cpos (starEach [e2] X.env)).any (·.1) = false := by rfl)
    (hsw : swapsWith (.Call (.Attribute (.Name x p) "insert" apos) [e, e2] [] cpos) none pos.line X.env = pure false := by rfl) : SS X C W (.Expr (.Call (.Attribute (.Name x p) "insert" apos) [e, e2] [] cpos) pos) (sInsert i f f2) := by
  refine ps_imp (ps_expr (pe_bm PySem.F.plainAttrs_list PySem.F.slot_list_insert PySem.F.type_list_insert mt_insert (pe_var hN hv hd hcd) (pa_cons he (pa_cons he2 pa_nil hs2) hs) hbase hfew hline hs hplain) hsw) ?_
  rintro D σ H ⟨F0, H0, F, ρ, g, rel, h⟩
  unfold sInsert at h
  split at h
  · rename_i ds hq
    obtain ⟨a, hs, own, ha0⟩ := rel.own hq
    obtain ⟨vs0, hv0, _, _⟩ := own.lst
    refine ⟨.ref a, hs, .inl ⟨rfl, _, SqL.of hv0⟩, F0, H0, F, ρ, g, rel, onOk_mono (on_r rel (.refl F) h) (fun k g1 h1 u F1 H1 a1 r1 => ?_) fun x g1 h1 => h1⟩
    have rel1 := rel.step a1
    refine ⟨F0, H0, F1, ρ, g1, rel1, onOk_mono (on_r rel1 a1.stp.ff h1) (fun b g2 h2 y F2 H2 a2 r2 => ?_) fun x g1 h1 => h1⟩
    split at h2
    · exact h2.elim
    · rename_i nb
      obtain ⟨F3, a3, r3, l3⟩ := r2.freeze a2 (fun z => nb z)
      have rel3 := rel1.step a3
      obtain ⟨a', hs', own2, _⟩ := rel3.own hq
      rw [hs] at hs'
      cases hs'
      obtain ⟨vs, hv, hz, rv⟩ := own2.lst
      split at h2
      · rename_i n en
        have rn := r1.ro
        rw [en] at rn
        rw [ro_int rn]
        split at h2
        · rename_i hl
          obtain ⟨l0, l1, l2⟩ := hl
          unfold LIM at l1
          have hl2 : vs.length < sizeLine := lim_lt (by rw [rv.length]; exact l2)
          refine ⟨a, vs, n, y, rfl, rfl, hv, hl2, l0, by omega, ?_⟩
          refine h2 σ F3 _ (a1.stp.ff.trans a3.stp.ff) (rel3.mut hq hs (.lst upd_same ?_ (((rv.take _).snoc r3).append (rv.drop _))))
          simp only [List.length_append, List.length_take, List.length_drop, List.length_cons, List.length_nil]
          omega
        · exact h2.elim
      · exact h2.elim
  · exact h.elim
end

/-! ### x[e] = v -/
theorem pset_or {t1 t2 : TSet} (h1 : PSet X t1) (h2 : PSet X t2) : PSet X (fun o i v H Q => t1 o i v H Q ∨ t2 o i v H Q) := by
  intro pins s σ H o i v ov iv u Q I ro ri rv h
  exact h.elim (h1 pins s σ H o i v ov iv u Q I ro ri rv) (h2 pins s σ H o i v ov iv u Q I ro ri rv)
theorem any_k {F : Hp} {i : Int} : ∀ {vs : List (Key × V)} {ds : List (Int × D)}, RepK C F vs ds → (vs.any fun kv => decide (kv.1 = .inl i)) = ds.any fun p => decide (p.1 = i)
  | _, _, .nil => rfl
  | _, _, .cons (k := k) r t => by
    rw [List.any_cons, List.any_cons, any_k t]
    congr 1
    by_cases e : k = i
    · subst e; simp
    · rw [decide_eq_false e, decide_eq_false (fun z => e (Sum.inl.inj z))]
theorem map_k {F : Hp} {i : Int} {v : V} {x : D} (rx : Rep C F v x) : ∀ {vs : List (Key × V)} {ds : List (Int × D)}, RepK C F vs ds → RepK C F (vs.map fun kv => if kv.1 = .inl i then (kv.1, v) else kv) (ds.map fun p => if p.1 = i then (p.1, x) else p)
  | _, _, .nil => .nil
  | _, _, .cons (k := k) r t => by
    rw [List.map_cons, List.map_cons]
    by_cases e : k = i
    · subst e
      rw [if_pos rfl, if_pos rfl]
      exact .cons rx (map_k rx t)
    · rw [if_neg e, if_neg (fun z => e (Sum.inl.inj z))]
      exact .cons r (map_k rx t)
theorem app_k {F : Hp} {i : Int} {v : V} {x : D} (rx : Rep C F v x) : ∀ {vs : List (Key × V)} {ds : List (Int × D)}, RepK C F vs ds → RepK C F (vs ++ [(.inl i, v)]) (ds ++ [(i, x)])
  | _, _, .nil => .cons rx .nil
  | _, _, .cons r t => .cons r (app_k rx t)
theorem put_k {F : Hp} {i : Int} {v : V} {x : D} (rx : Rep C F v x) {vs : List (Key × V)} {ds : List (Int × D)} (r : RepK C F vs ds) : RepK C F (putK vs (.inl i) v) (putI i x ds) := by
  unfold putK putI
  rw [any_k r]
  by_cases h : (ds.any fun p => decide (p.1 = i)) = true
  · rw [if_pos h, if_pos h]; exact map_k rx r
  · rw [if_neg h, if_neg h]; exact app_k rx r
theorem any_t {F : Hp} {i : List Int} : ∀ {vs : List (List Key × V)} {ds : List (List Int × D)}, RepT C F vs ds → (vs.any fun kv => decide (kv.1 = i.map Sum.inl)) = ds.any fun p => decide (p.1 = i)
  | _, _, .nil => rfl
  | _, _, .cons (k := k) r t => by
    rw [List.any_cons, List.any_cons, any_t t]
    congr 1
    by_cases e : k = i
    · subst e; simp
    · rw [decide_eq_false e, decide_eq_false (fun z => e (inl_inj z))]
theorem map_t {F : Hp} {i : List Int} {v : V} {x : D} (rx : Rep C F v x) : ∀ {vs : List (List Key × V)} {ds : List (List Int × D)}, RepT C F vs ds → RepT C F (vs.map fun kv => if kv.1 = i.map Sum.inl then (kv.1, v) else kv) (ds.map fun p => if p.1 = i then (p.1, x) else p)
  | _, _, .nil => .nil
  | _, _, .cons (k := k) r t => by
    rw [List.map_cons, List.map_cons]
    by_cases e : k = i
    · subst e
      rw [if_pos rfl, if_pos rfl]
      exact .cons rx (map_t rx t)
    · rw [if_neg e, if_neg (fun z => e (inl_inj z))]
      exact .cons r (map_t rx t)
theorem app_t {F : Hp} {i : List Int} {v : V} {x : D} (rx : Rep C F v x) : ∀ {vs : List (List Key × V)} {ds : List (List Int × D)}, RepT C F vs ds → RepT C F (vs ++ [(i.map Sum.inl, v)]) (ds ++ [(i, x)])
  | _, _, .nil => .cons rx .nil
  | _, _, .cons r t => .cons r (app_t rx t)
theorem put_t {F : Hp} {i : List Int} {v : V} {x : D} (rx : Rep C F v x) {vs : List (List Key × V)} {ds : List (List Int × D)} (r : RepT C F vs ds) : RepT C F (putK vs (i.map Sum.inl) v) (putT i x ds) := by
  unfold putK putT
  rw [any_t r]
  by_cases h : (ds.any fun p => decide (p.1 = i)) = true
  · rw [if_pos h, if_pos h]; exact map_t rx r
  · rw [if_neg h, if_neg h]; exact app_t rx r
theorem ss_setIx {x : Str} {p sp : Pos} {ie e : Expr} {f h : E} {i : Nat} (he : SE X C W e f)
    (hs : swapsWithSole [.Subscript (.Name x p) ie sp] e pos.line X.env = pure false := by rfl) (hw : swappedStores [.Subscript (.Name x p) ie sp] e X.env = pure none := by rfl)
    (h1 : (assignEach [.Subscript (.Name x p) ie sp] X.env).map (·.2) = [assign (.Subscript (.Name x p) ie sp) X.env] := by rfl)
    (hg : PG X (.Subscript (.Name x p) ie sp) (gSub (tVar i) (tE C W h) (fun o i v H Q => rSetL o i v H Q ∨ rSetD o i v H Q))) : SS X C W (.Assign [.Subscript (.Name x p) ie sp] e pos) (sSetIx i h f) := by
  refine ps_imp (ps_asg he hg hs hw h1) ?_
  rintro D' σ H ⟨F0, H0, F, ρ, g, rel, t⟩
  rw [sSetIx_0] at t
  refine ⟨F0, H0, F, ρ, g, rel, onOk_mono (on_r rel (.refl F) t) (fun b g1 h1 y F1 H1 a1 r1 => ?_) fun x g1 h1 => h1⟩
  split at h1
  · exact h1.elim
  · rename_i nb
    split at h1
    · rename_i d hq
      obtain ⟨F2, a2, r2, l2⟩ := r1.freeze a1 (fun z => nb z)
      have rel2 := rel.step a2
      obtain ⟨a, hsl, own, _⟩ := rel2.own hq
      refine ⟨.ref a, hsl, F0, H0, F2, ρ, g1, rel2, onOk_mono (on_r rel2 a2.stp.ff h1) (fun k g2 h2 u F3 H3 a3 r3 => ?_) fun x g1 h1 => h1⟩
      have rel3 := rel2.step a3
      obtain ⟨a', hsl', own3, _⟩ := rel3.own hq
      rw [hsl] at hsl'
      cases hsl'
      have r2 := r2.le a3.stp.ff
      have lf := a2.stp.ff.trans a3.stp.ff
      split at h2
      · rename_i d1 em
        cases d with
        | lst ds =>
          obtain ⟨vs, hv, hz, rv⟩ := own3.lst
          cases ek : k.d with
          | int n =>
            rw [ek] at em
            have rn := r3.ro
            rw [ek] at rn
            rw [ro_int rn]
            simp only [mSetIx] at em
            split at em
            · rename_i j ej
              cases em
              have ej' : ixN vs.length n = some j := by rw [rv.length]; exact ej
              refine .inl ⟨a, vs, n, j, rfl, rfl, hv, ej', ?_⟩
              exact h2 σ F3 _ lf (rel3.mut hq hsl (.lst upd_same (by rw [List.length_set]; exact hz) (rv.set r2 j)))
            · cases em
          | _ => rw [ek] at em; simp [mSetIx] at em
        | dk ds =>
          cases own3.top with
          | dk hv rv =>
            rename_i vs
            cases ek : k.d with
            | int n =>
              rw [ek] at em
              have rn := r3.ro
              rw [ek] at rn
              rw [ro_int rn]
              simp only [mSetIx] at em
              split at em
              · rename_i hl
                cases em
                have hl2 : vs.length < sizeLine := lim_lt (by rw [repK_len rv]; exact hl)
                refine .inr ⟨a, _, rfl, DPut.k (k := .inl n) hv hl2, ?_⟩
                exact h2 σ F3 _ lf (rel3.mut hq hsl (.dk upd_same (put_k r2 rv)))
              · cases em
            | _ => rw [ek] at em; simp [mSetIx] at em
        | dt ds =>
          cases own3.top with
          | dt hv rv =>
            rename_i vs
            cases ek : k.d with
            | tup ks =>
              rw [ek] at em
              have rn := r3.ro
              rw [ek] at rn
              obtain ⟨c, ws, rfl, fc, hc, _, rc⟩ := ro_tup a3.stp.le rn
              simp only [mSetIx] at em
              split at em
              · rename_i is ei
                split at em
                · rename_i hl
                  cases em
                  rw [ints_of rc ei, map_kV] at hc
                  have hl2 : vs.length < sizeLine := lim_lt (by rw [repT_len rv]; exact hl)
                  refine .inr ⟨a, _, rfl, DPut.t hv hc hl2, ?_⟩
                  exact h2 σ F3 _ lf (rel3.mut hq hsl (.dt upd_same (put_t r2 rv)))
                · cases em
              · cases em
            | _ => rw [ek] at em; simp [mSetIx] at em
        | _ => simp [mSetIx] at em
      · exact h2.elim
    · exact h1.elim

/-! ### the text's own step that is none of Python's: a list is shared from here on -/
theorem Rel.share {F0 H0 F H : Hp} {ρ : Ro} {g : G} {σ : L2.St} {i : Nat} {b : B} (rel : Rel C F0 H0 F ρ g σ H) (hi : ρ[i]? = some (some b)) : ∃ F', Le F F' ∧ Rel C F0 H0 F' (ρ.set i (some (sh b.d))) g σ H := by
  obtain ⟨v, hs, r⟩ := rel.slot i b hi
  have hl : i < ρ.length := (List.getElem?_eq_some_iff.mp hi).1
  have build : ∀ F', Le F F' → (∀ c u, F' c = some u → H c = some u) → (∀ c, H0 c ≠ none → F0 c = none → F' c = none ∨ ∃ xs, F' c = some (.tup xs)) → StOk C F' g H → (∀ a ps, F' a ≠ some (.tbl ps)) → Rep C F' v b.d → (∀ (j : Nat) (c : B), i ≠ j → ρ[j]? = some (some c) → ∀ u, σ[j]? = some (some u) → RS C H0 F H u c → RS C H0 F' H u c) → Rel C F0 H0 F' (ρ.set i (some (sh b.d))) g σ H := by
    intro F' l le pr st nt rp oth
    refine ⟨⟨rel.stp.ff.trans l, le, rel.stp.keep, rel.stp.there, pr⟩, st, ⟨rel.tabs.1, rel.tabs.2, nt⟩, by rw [List.length_set]; exact rel.len, fun j c h => ?_, fun j k bj bk x hj hk tj tk sj sk => ?_, rel.ent⟩
    · by_cases q : i = j
      · subst q
        rw [List.getElem?_set_self hl] at h
        cases h
        exact ⟨v, hs, rp⟩
      · rw [List.getElem?_set_ne q] at h
        obtain ⟨u, hu, ru⟩ := rel.slot j c h
        exact ⟨u, hu, oth j c q h u hu ru⟩
    · have q1 : i ≠ j := fun q => by subst q; rw [List.getElem?_set_self hl] at hj; cases hj; cases tj
      have q2 : i ≠ k := fun q => by subst q; rw [List.getElem?_set_self hl] at hk; cases hk; cases tk
      rw [List.getElem?_set_ne q1] at hj
      rw [List.getElem?_set_ne q2] at hk
      exact rel.dis j k bj bk x hj hk tj tk sj sk
  obtain ⟨t, d⟩ := b
  cases t with
  | sh => exact ⟨F, .refl F, build F (.refl F) rel.stp.le rel.stp.priv rel.st rel.tabs.3 r fun j c _ _ u _ ru => ru⟩
  | bw => exact r.elim
  | ow =>
    obtain ⟨a, ha0, own⟩ : ∃ a, H0 a = none ∧ Own C F H v a d := r
    have ev := own.v
    subst ev
    obtain ⟨o, ho, hnt⟩ := own.top.there
    have l : Le F (L2.upd F a o) := Le.upd own.fr
    have rp : Rep C (L2.upd F a o) (.ref a) d := by
      cases own.top with
      | lst h z q => rw [h] at ho; cases ho; exact .lst upd_same z (q.le l)
      | dk h q => rw [h] at ho; cases ho; exact .dk upd_same (q.le l)
      | dt h q => rw [h] at ho; cases ho; exact .dt upd_same (q.le l)
    refine ⟨L2.upd F a o, l, build _ l (fun c u h => ?_) (fun c h n => ?_) ?_ (TabsC.grow rel.tabs hnt).3 rp fun j c q hj u hu ru => ?_⟩
    · by_cases e : c = a
      · subst e; rw [upd_same] at h; cases h; exact ho
      · rw [upd_ne e] at h; exact rel.stp.le c u h
    · rw [upd_ne (fun e => by subst e; exact h ha0)]; exact rel.stp.priv c h n
    · have s := rel.st
      have ns := own.ns
      unfold StOk at s ⊢
      unfold InSt at ns
      cases eC : C.st with
      | none => trivial
      | some t =>
        obtain ⟨x, y, z⟩ := t
        rw [eC] at s ns
        cases g with
        | none => exact s
        | some gs =>
          obtain ⟨h1, h2, h3, n1, n2, n3, f1, f2, f3⟩ := s
          refine ⟨h1, h2, h3, n1, n2, n3, ?_, ?_, ?_⟩
          · rw [upd_ne (fun z => ns (.inl z.symm))]; exact f1
          · rw [upd_ne (fun z => ns (.inr (.inl z.symm)))]; exact f2
          · rw [upd_ne (fun z => ns (.inr (.inr z.symm)))]; exact f3
    · obtain ⟨tc, dc⟩ := c
      cases tc with
      | sh => exact Rep.le l ru
      | bw => exact ru
      | ow =>
        obtain ⟨x, hx, o2⟩ : ∃ x, H0 x = none ∧ Own C F H u x dc := ru
        have e2 := o2.v
        subst e2
        have ne : x ≠ a := fun z => by subst z; exact q (rel.dis i j _ _ x hi hj rfl rfl hs hu)
        refine ⟨x, hx, rfl, by rw [upd_ne ne]; exact o2.fr, o2.ns, ?_⟩
        cases o2.top with
        | lst h z q => exact .lst h z (q.le l)
        | dk h q => exact .dk h (q.le l)
        | dt h q => exact .dt h (q.le l)
theorem ss_freeze {i : Nat} {sts : List Stmt} {f : S} (h : SSs X C W sts f) : SSs X C W sts (sSeq (sFreeze i) f) := by
  refine pss_imp h ?_
  rintro D' σ H ⟨F0, H0, F, ρ, g, rel, t⟩
  unfold sSeq sFreeze at t
  split at t
  · rename_i ρ1 g1 e
    split at e
    · rename_i b hq
      cases e
      obtain ⟨F', l, rel'⟩ := rel.share hq
      exact ⟨F0, H0, F', _, _, rel', t.up l⟩
    · cases e
  · rename_i r hr
    split at hr
    · exact absurd rfl (hr _ _)
    · rename_i nq
      revert t
      split
      · rename_i b hq; exact absurd hq (nq b)
      · exact fun z => z.elim
end
end Sx

set_option Elab.async false
set_option linter.all false
set_option maxRecDepth 100000
set_option maxHeartbeats 4000000
/-! Sx9: comprehensions, further walks, defs by their bodies. -/
namespace Sx
open PySem PySem.Spec PyProof.Rows L2
section
variable {X : Cx} {C : Cs} {W : WX} {pos : Pos}

/-! ### comprehensions -/
theorem wipeR_get {ρ : Ro} {i : Nat} {b : B} : ∀ {vs : List Nat}, (wipeR ρ vs)[i]? = some (some b) → ρ[i]? = some (some b) ∧ i ∉ vs
  | [], h => ⟨h, by simp⟩
  | v :: vs, h => by
    unfold wipeR at h
    by_cases hi : v = i
    · subst hi
      by_cases hv : v < (wipeR ρ vs).length
      · rw [List.getElem?_set_self hv] at h; cases h
      · rw [List.getElem?_eq_none (by rw [List.length_set]; omega)] at h; cases h
    · rw [List.getElem?_set_ne hi] at h
      obtain ⟨h1, h2⟩ := wipeR_get h
      exact ⟨h1, by simp only [List.mem_cons, not_or]; exact ⟨fun e => hi e.symm, h2⟩⟩
theorem wipeR_len (ρ : Ro) : ∀ vs : List Nat, (wipeR ρ vs).length = ρ.length
  | [] => rfl
  | v :: vs => by unfold wipeR; rw [List.length_set, wipeR_len ρ vs]
theorem wipe_at {σ : L2.St} {i : Nat} : ∀ {vs : List Nat}, i ∉ vs → (wipe σ vs)[i]? = σ[i]?
  | [], _ => rfl
  | v :: vs, h => by
    simp only [List.mem_cons, not_or] at h
    unfold wipe
    rw [List.getElem?_set_ne (fun e => h.1 e.symm), wipe_at h.2]
theorem wipe_in {σ : L2.St} {i : Nat} : ∀ {vs : List Nat}, i ∈ vs → i < σ.length → (wipe σ vs)[i]? = some none
  | [], h, _ => by cases h
  | v :: vs, h, hl => by
    unfold wipe
    by_cases e : v = i
    · subst e
      rw [List.getElem?_set_self (by rw [wipe_length]; exact hl)]
    · rw [List.getElem?_set_ne e]
      have h : i ∈ vs := by
        rcases List.mem_cons.mp h with rfl | h
        · exact absurd rfl e
        · exact h
      exact wipe_in h hl
theorem wipe_off {σ σ' : L2.St} {is vs : List Nat} (o : Off is (wipe σ vs) σ') (h : ∀ i ∈ is, i ∈ vs) : wipe σ' vs = wipe σ vs := by
  have hl : σ'.length = σ.length := by rw [o.1, wipe_length]
  refine List.ext_getElem? fun i => ?_
  by_cases hi : i ∈ vs
  · by_cases hs : i < σ.length
    · rw [wipe_in hi (by rw [hl]; exact hs), wipe_in hi hs]
    · rw [List.getElem?_eq_none (by rw [wipe_length]; omega), List.getElem?_eq_none (by rw [wipe_length]; omega)]
  · rw [wipe_at hi, o.2 i (fun z => hi (h i z))]
theorem Rel.wipe {F0 H0 F H : Hp} {ρ : Ro} {g : G} {σ : L2.St} (rel : Rel C F0 H0 F ρ g σ H) (vs : List Nat) : Rel C F0 H0 F (wipeR ρ vs) g (L2.wipe σ vs) H :=
  ⟨rel.stp, rel.st, rel.tabs, by rw [wipeR_len, wipe_length]; exact rel.len, fun i b h => by
    obtain ⟨h1, h2⟩ := wipeR_get h
    obtain ⟨v, h3, h4⟩ := rel.slot i b h1
    exact ⟨v, by rw [wipe_at h2]; exact h3, h4⟩, fun i j bi bj a hi hj ti tj si sj => by
    obtain ⟨h1, h2⟩ := wipeR_get hi
    obtain ⟨h3, h4⟩ := wipeR_get hj
    rw [wipe_at h2] at si
    rw [wipe_at h4] at sj
    exact rel.dis i j bi bj a h1 h3 ti tj si sj, rel.ent⟩
def tOpt (C : Cs) (c : Option E) : TT := match c with
  | none => tYes
  | some f => tT C (fun _ _ _ _ => False) f
theorem noEr_onOk {α : Type} {r : R α} {K : α → G → Prop} {X : Ex → G → Prop} (n : ∀ x g, r ≠ .er x g) (h : onOk r K X) : onOk r K (fun _ _ => False) := by
  cases r with
  | ok a g => exact h
  | er x g => exact absurd rfl (n x g)
  | no => exact h
theorem compL_noEr (t : Tg) (c : Option E) (f : E) (ρ0 : Ro) : ∀ (ds acc : List D) (g : G) (x : Ex) (g' : G), compL t c f ρ0 ds acc g ≠ .er x g'
  | [], acc, g, x, g', h => by cases h
  | d :: ds, acc, g, x, g', h => by
    unfold compL at h
    split at h
    · cases h
    · split at h
      · split at h
        · cases h
        · exact compL_noEr t c f ρ0 ds _ _ x g' h
        · cases h
      · exact compL_noEr t c f ρ0 ds _ _ x g' h
      · cases h
/-- the frame of a comprehension's turn, the new list standing at D -/
theorem comp_core {it : It} {t : Tg} {c : Option E} {f : E} {vs : List Nat} (hsl : ∀ i ∈ t.slots, i ∈ vs) {σ : L2.St} {H : Hp} {Q : VK} (tt : tE C W (eComp vs it t c f) σ H Q) :
    tLc (tIc C W it) (gT C t) (tOpt C c) (tE C (fun _ _ _ _ => False) f) vs σ H Q := by
  obtain ⟨F0, H0, F, ρ, g, rel, h⟩ := tt
  rw [eComp_0] at h
  unfold eComp0 at h
  rw [onOk_bind] at h
  refine ⟨F0, H0, F, ρ, g, rel, onOk_mono h (fun ds g1 h1 J F1 H1 a1 wk => ?_) fun x g1 h1 => h1⟩
  intro D hD
  split at h1
  · rename_i hlim
    rw [onOk_bind] at h1
    have rel1 := rel.step a1
    have nsD : ¬ InSt C D := fun z => InSt.there a1.st z hD
    have s0 : Stp C F1 H1 F1 (upd H1 D (.lst [])) := .newOw a1.stp.le hD
    refine lc_it wk (fun i Hx => ∃ Fx gx xs acc, Stp C F1 H1 Fx Hx ∧ StOk C Fx gx Hx ∧ TabsC C Fx Hx ∧ Hx D = some (.lst xs) ∧ Fx D = none ∧ Reps C Fx xs acc ∧ xs.length ≤ i ∧ i ≤ ds.length ∧
      onOk (compL t c f (wipeR ρ vs) (ds.drop i) acc gx) (fun out g2 => ∀ v F' H', After C F H g2 F' H' → RB C H F' H' v (ow (.lst out)) → Q v H') (fun _ _ => False)) ?_ ?_ ?_ ?_
    · refine ⟨F1, g1, [], [], s0, a1.st.new hD (.inl rfl), tabs_new hD a1.tabs, upd_same, a1.stp.le.free hD, .nil, Nat.le_refl _, Nat.zero_le _, ?_⟩
      exact noEr_onOk (compL_noEr t c f _ ds [] g1) (onOk_mono h1 (fun out g2 h2 v F' H' a r => h2 v F' H' a r) fun x g2 h2 => h2)
    · rintro i Hx _ ⟨Fx, _, _, _, s, _⟩
      exact ⟨Fx, s⟩
    · rintro i x Hx Hy hi ⟨Fx, gx, xs, acc, s, st, tb, hxs, fD, rp, hli, _, p⟩ y
      obtain ⟨Fy, d, qt, e, rd⟩ := y Fx s.ff s.le
      rw [drop_step e] at p
      unfold compL at p
      split at p
      · exact p.elim
      · rename_i ρ1 e1
        have ay : After C F H gx Fy Hy := ⟨a1.stp.trans (s.trans qt.stp), qt.st _ st, qt.tabs tb⟩
        have rely := (rel.step ay).wipe vs
        have hD2 : Hx D ≠ none := by rw [hxs]; simp
        have hDy : Hy D = some (.lst xs) := qt.stp.keep _ _ hxs nsD fun _ q => by cases q
        have fDy : Fy D = none := qt.stp.un hD2 fD hDy (fun _ q => by cases q)
        refine ⟨F0, H0, Fy, wipeR ρ vs, gx, d, ρ1, rely, rd, e1, fun σ2 off rel2 => ⟨wipe_off off hsl, ?_⟩⟩
        -- behind the test
        have elt : ∀ (k : Bool) (g3 : G) (F3 H3 : Hp), After C Fy Hy g3 F3 H3 → (k = true → onOk (match f ρ1 g3 with | .ok ⟨.bw, _⟩ _ => .no | .ok b g2 => compL t c f (wipeR ρ vs) (ds.drop (i + 1)) (acc ++ [b.d]) g2 | _ => .no) (fun out g2 => ∀ v F' H', After C F H g2 F' H' → RB C H F' H' v (ow (.lst out)) → Q v H') (fun _ _ => False)) →
            (k = false → onOk (compL t c f (wipeR ρ vs) (ds.drop (i + 1)) acc g3) (fun out g2 => ∀ v F' H', After C F H g2 F' H' → RB C H F' H' v (ow (.lst out)) → Q v H') (fun _ _ => False)) →
            (if k = true then tE C (fun _ _ _ _ => False) f σ2 H3 (fun y H4 => ∃ acc, H4 D = some (.lst acc) ∧ acc.length < sizeLine ∧ (fun i Hx => ∃ Fx gx xs acc, Stp C F1 H1 Fx Hx ∧ StOk C Fx gx Hx ∧ TabsC C Fx Hx ∧ Hx D = some (.lst xs) ∧ Fx D = none ∧ Reps C Fx xs acc ∧ xs.length ≤ i ∧ i ≤ ds.length ∧
              onOk (compL t c f (wipeR ρ vs) (ds.drop i) acc gx) (fun out g2 => ∀ v F' H', After C F H g2 F' H' → RB C H F' H' v (ow (.lst out)) → Q v H') (fun _ _ => False)) (i + 1) (upd H4 D (.lst (acc ++ [y]))))
            else (fun i Hx => ∃ Fx gx xs acc, Stp C F1 H1 Fx Hx ∧ StOk C Fx gx Hx ∧ TabsC C Fx Hx ∧ Hx D = some (.lst xs) ∧ Fx D = none ∧ Reps C Fx xs acc ∧ xs.length ≤ i ∧ i ≤ ds.length ∧
              onOk (compL t c f (wipeR ρ vs) (ds.drop i) acc gx) (fun out g2 => ∀ v F' H', After C F H g2 F' H' → RB C H F' H' v (ow (.lst out)) → Q v H') (fun _ _ => False)) (i + 1) H3) := by
          intro k g3 F3 H3 a3 yes no
          have hDy' : Hy D ≠ none := by rw [hDy]; simp
          have hD3 : H3 D = some (.lst xs) := a3.stp.keep _ _ hDy nsD fun _ q => by cases q
          have fD3 : F3 D = none := a3.stp.un hDy' fDy hD3 (fun _ q => by cases q)
          have rp3 : Reps C F3 xs acc := (rp.le qt.stp.ff).le a3.stp.ff
          cases k with
          | false =>
            refine iteF ?_
            exact ⟨F3, g3, xs, acc, (s.trans qt.stp).trans a3.stp, a3.st, a3.tabs, hD3, fD3, rp3, by omega, by omega, no rfl⟩
          | true =>
            refine iteT ?_
            have p := yes rfl
            have rel3 := rel2.step a3
            refine ⟨F0, H0, F3, ρ1, g3, rel3, ?_⟩
            cases q : f ρ1 g3 with
            | er x g4 => rw [q] at p; exact p.elim
            | no => rw [q] at p; exact p.elim
            | ok b g4 =>
              rw [q] at p
              intro u F4 H4 a4 r4
              have nb : b.t ≠ .bw := fun z => by
                obtain ⟨t, d⟩ := b
                subst z
                exact p.elim
              have p : onOk (compL t c f (wipeR ρ vs) (ds.drop (i + 1)) (acc ++ [b.d]) g4) (fun out g2 => ∀ v F' H', After C F H g2 F' H' → RB C H F' H' v (ow (.lst out)) → Q v H') (fun _ _ => False) := by
                obtain ⟨t, d⟩ := b
                cases t with
                | bw => exact absurd rfl nb
                | sh => exact p
                | ow => exact p
              obtain ⟨F5, a5, r5, l5⟩ := r4.freeze a4 nb
              have hD3' : H3 D ≠ none := by rw [hD3]; simp
              have hD4 : H4 D = some (.lst xs) := a5.stp.keep _ _ hD3 nsD fun _ q => by cases q
              have fD5 : F5 D = none := a5.stp.un hD3' fD3 hD4 (fun _ q => by cases q)
              have hl : xs.length < sizeLine := lim_lt (Nat.lt_of_lt_of_le (show xs.length < ds.length by omega) hlim)
              have s5 := ((s.trans qt.stp).trans a3.stp).trans a5.stp
              refine ⟨xs, hD4, hl, F5, g4, xs ++ [u], acc ++ [b.d], ⟨s5.ff, fun z w h => ?_, fun z w h n t => ?_, fun z h => ?_, s5.priv⟩, a5.st.upd nsD, tabs_upd a5.tabs hD4 trivial, upd_same, fD5, (rp3.le a5.stp.ff).snoc r5, ?_, by omega, p⟩
              · rw [upd_ne (fun q => by subst q; rw [fD5] at h; cases h)]; exact s5.le z w h
              · rw [upd_ne (fun q => by subst q; rw [hD] at h; cases h)]; exact s5.keep z w h n t
              · by_cases q : z = D
                · subst q; rw [upd_same]; simp
                · rw [upd_ne q]; exact s5.there z h
              · rw [List.length_append, List.length_singleton]; omega
        cases c with
        | none =>
          exact elt true gx Fy Hy ⟨.refl qt.stp.le, qt.st _ st, qt.tabs tb⟩ (fun _ => p) (fun z => by cases z)
        | some fc =>
          refine ⟨F0, H0, Fy, ρ1, gx, rel2, ?_⟩
          have p : onOk (match (fc ρ1 gx).bind (fun b g1 => match b with | ⟨.sh, .bl k⟩ => R.ok k g1 | _ => R.no) with
            | .ok true g1 => (match f ρ1 g1 with | .ok ⟨.bw, _⟩ _ => .no | .ok b g2 => compL t (some fc) f (wipeR ρ vs) (ds.drop (i + 1)) (acc ++ [b.d]) g2 | _ => .no)
            | .ok false g1 => compL t (some fc) f (wipeR ρ vs) (ds.drop (i + 1)) acc g1
            | _ => .no) (fun out g2 => ∀ v F' H', After C F H g2 F' H' → RB C H F' H' v (ow (.lst out)) → Q v H') (fun _ _ => False) := p
          cases q : fc ρ1 gx with
          | er x g3 => rw [q] at p; exact p.elim
          | no => rw [q] at p; exact p.elim
          | ok b g3 =>
            rw [q] at p
            obtain ⟨t', d'⟩ := b
            cases t' with
            | sh =>
              cases d' with
              | bl k =>
                refine ⟨k, rfl, fun F3 H3 a3 => ?_⟩
                cases k with
                | true => exact elt true g3 F3 H3 a3 (fun _ => p) (fun z => by cases z)
                | false => exact elt false g3 F3 H3 a3 (fun z => by cases z) (fun _ => p)
              | _ => exact p.elim
            | _ => exact p.elim
    · rintro Hx ⟨Fx, gx, xs, acc, s, st, tb, hxs, fD, rp, hli, _, p⟩
      rw [List.drop_length] at p
      have hz : xs.length ≤ sizeLine := sizeL (Nat.le_trans hli hlim)
      exact p (.ref D) Fx Hx ⟨a1.stp.trans s, st, tb⟩ ⟨D, a1.none hD, rfl, fD, nsD, .lst hxs hz rp⟩
  · exact h1.elim
section
variable {elt tg iter : Expr} {scope : Scope} {own : List (Str × Nat)} {it : It} {t : Tg} {f fc : E} {cond : Expr}
theorem se_comp (hc : X.calm = true) (hN : X.N.Nodup) (hi : SIc X C W tg iter it) (ok : BlkOk X.N X.env.scope scope own)
    (hg : ∀ (s : Shared) (H : Hp) (Cc : Addr) (cl : List (Str × Addr)) (fp : List Addr), ST (X.blk s H scope (compEnvC scope cl Cc X.env) fp) C tg t)
    (he : ∀ (s : Shared) (H : Hp) (Cc : Addr) (cl : List (Str × Addr)) (fp : List Addr), SE (X.blk s H scope (compEnvC scope cl Cc X.env) fp) C (fun _ _ _ _ => False) elt f)
    (hsl : ∀ i ∈ t.slots, i ∈ own.map (·.2) := by decide) (hs : ∀ x, foldedSetIterable iter X.env x = pure x := by intro _; rfl) : SE X C W (.ListComp elt [⟨tg, iter, [], 0⟩] scope pos) (eComp (own.map (·.2)) it t none f) :=
  pe_imp (pe_lc (tt := tOpt C none) hc hN hi ok hg (fun _ _ _ _ _ => pts_nil) he hs) fun σ H Q tt => comp_core hsl tt
theorem se_compIf (hc : X.calm = true) (hN : X.N.Nodup) (hi : SIc X C W tg iter it) (ok : BlkOk X.N X.env.scope scope own)
    (hg : ∀ (s : Shared) (H : Hp) (Cc : Addr) (cl : List (Str × Addr)) (fp : List Addr), ST (X.blk s H scope (compEnvC scope cl Cc X.env) fp) C tg t)
    (ht : ∀ (s : Shared) (H : Hp) (Cc : Addr) (cl : List (Str × Addr)) (fp : List Addr), SB (X.blk s H scope (compEnvC scope cl Cc X.env) fp) C (fun _ _ _ _ => False) cond fc)
    (he : ∀ (s : Shared) (H : Hp) (Cc : Addr) (cl : List (Str × Addr)) (fp : List Addr), SE (X.blk s H scope (compEnvC scope cl Cc X.env) fp) C (fun _ _ _ _ => False) elt f)
    (hsl : ∀ i ∈ t.slots, i ∈ own.map (·.2) := by decide) (hs : ∀ x, foldedSetIterable iter X.env x = pure x := by intro _; rfl) : SE X C W (.ListComp elt [⟨tg, iter, [cond], 0⟩] scope pos) (eComp (own.map (·.2)) it t (some fc) f) :=
  pe_imp (pe_lc (tt := tOpt C (some fc)) hc hN hi ok hg (fun s H Cc cl fp => pts_one (ht s H Cc cl fp)) he hs) fun σ H Q tt => comp_core hsl tt
/-- x = [..]: on one line, x a plain local -/
theorem ss_setComp {i : Nat} {y : Str} {py : Pos} {lpos : Pos} (hc : X.calm = true) (hN : X.N.Nodup) (hi : SIc X C W tg iter it) (ok : BlkOk X.N X.env.scope scope own)
    (hg : ∀ (s : Shared) (H : Hp) (Cc : Addr) (cl : List (Str × Addr)) (fp : List Addr), ST (X.blk s H scope (compEnvC scope cl Cc X.env) fp) C tg t)
    (he : ∀ (s : Shared) (H : Hp) (Cc : Addr) (cl : List (Str × Addr)) (fp : List Addr), SE (X.blk s H scope (compEnvC scope cl Cc X.env) fp) C (fun _ _ _ _ => False) elt f)
    (hsw : swapsWith (.ListComp elt [⟨tg, iter, [], 0⟩] scope lpos) (some (.Name y py)) pos.line X.env = pure true)
    (hy : X.N[i]? = some y := by rfl) (hyl : X.env.scope.names.lookup y = some .local := by rfl) 
    (hsl : ∀ i ∈ t.slots, i ∈ own.map (·.2) := by decide) (hs : ∀ x, foldedSetIterable iter X.env x = pure x := by intro _; rfl) : SS X C W (.Assign [.Name y py] (.ListComp elt [⟨tg, iter, [], 0⟩] scope lpos) pos) (sAsg i (eComp (own.map (·.2)) it t none f)) := by
  refine ps_imp (ps_setLc (tt := tOpt C none) hc hN hy hyl hsw hi ok hg (fun _ _ _ _ _ => pts_nil) he hs) ?_
  rintro D σ H ⟨F0, H0, F, ρ, g, rel, h⟩
  rw [sAsg_0] at h
  refine comp_core hsl ⟨F0, H0, F, ρ, g, rel, onOk_mono (on_r rel (.refl F) h) (fun b g1 h1 v F1 H1 a1 r1 => ?_) fun x g1 h1 => h1⟩
  split at h1
  · exact h1.elim
  · rename_i nb
    exact h1 _ F1 H1 a1.stp.ff (rel.set a1 r1 (fun z => nb z) i)
theorem ss_setCompIf {i : Nat} {y : Str} {py : Pos} {lpos : Pos} (hc : X.calm = true) (hN : X.N.Nodup) (hi : SIc X C W tg iter it) (ok : BlkOk X.N X.env.scope scope own)
    (hg : ∀ (s : Shared) (H : Hp) (Cc : Addr) (cl : List (Str × Addr)) (fp : List Addr), ST (X.blk s H scope (compEnvC scope cl Cc X.env) fp) C tg t)
    (ht : ∀ (s : Shared) (H : Hp) (Cc : Addr) (cl : List (Str × Addr)) (fp : List Addr), SB (X.blk s H scope (compEnvC scope cl Cc X.env) fp) C (fun _ _ _ _ => False) cond fc)
    (he : ∀ (s : Shared) (H : Hp) (Cc : Addr) (cl : List (Str × Addr)) (fp : List Addr), SE (X.blk s H scope (compEnvC scope cl Cc X.env) fp) C (fun _ _ _ _ => False) elt f)
    (hsw : swapsWith (.ListComp elt [⟨tg, iter, [cond], 0⟩] scope lpos) (some (.Name y py)) pos.line X.env = pure true)
    (hy : X.N[i]? = some y := by rfl) (hyl : X.env.scope.names.lookup y = some .local := by rfl) 
    (hsl : ∀ i ∈ t.slots, i ∈ own.map (·.2) := by decide) (hs : ∀ x, foldedSetIterable iter X.env x = pure x := by intro _; rfl) : SS X C W (.Assign [.Name y py] (.ListComp elt [⟨tg, iter, [cond], 0⟩] scope lpos) pos) (sAsg i (eComp (own.map (·.2)) it t (some fc) f)) := by
  refine ps_imp (ps_setLc (tt := tOpt C (some fc)) hc hN hy hyl hsw hi ok hg (fun s H Cc cl fp => pts_one (ht s H Cc cl fp)) he hs) ?_
  rintro D σ H ⟨F0, H0, F, ρ, g, rel, h⟩
  rw [sAsg_0] at h
  refine comp_core hsl ⟨F0, H0, F, ρ, g, rel, onOk_mono (on_r rel (.refl F) h) (fun b g1 h1 v F1 H1 a1 r1 => ?_) fun x g1 h1 => h1⟩
  split at h1
  · exact h1.elim
  · rename_i nb
    exact h1 _ F1 H1 a1.stp.ff (rel.set a1 r1 (fun z => nb z) i)
end

/-! ### reversed, enumerate, zip of lists and tuples -/
section
variable {tg e e2 : Expr} {f f2 : E} {p : Pos}
theorem rev_at {α : Type} {xs : List α} {i : Nat} (h : i < xs.length) : xs[xs.length - 1 - i]? = xs.reverse[i]? := by
  rw [List.getElem?_reverse h]
theorem si_rev (hg : Gl X "reversed") (hm : X.mg "reversed" = none) (he : SE X C W e f) (hs : starEach [e] X.env = (false, eval e X.env) :: starEach [] X.env := by rfl) : SI X C W tg (.Call (.Name "reversed" p) [e] [] pos) (iRev (iSeq f)) := by
  refine pi_imp (RT.pi_revA hg hm he hs) ?_
  rintro σ H R ⟨F0, H0, F, ρ, g, rel, h⟩
  unfold iRev iSeq at h
  simp only [onOk_bind] at h
  refine ⟨F0, H0, F, ρ, g, rel, onOk_mono h (fun b g1 h1 v F1 H1 a1 r1 => ?_) fun x g1 h1 => h1⟩
  have nb : b.t ≠ .bw := fun z => by
    obtain ⟨t, d⟩ := b
    subst z
    exact h1.elim
  obtain ⟨F2, a2, r2, l2⟩ := r1.freeze a1 nb
  obtain ⟨t, d⟩ := b
  cases d with
  | lst ds =>
    have h1 : ∀ J F' H', After C F H g1 F' H' → WalkD C J ds.reverse F' (fun H => Le F' H) → R J H' := by cases t <;> first | exact h1 | exact absurd rfl nb
    cases r2 with
    | lst hf hz rr =>
      rename_i a vs
      refine ⟨a, vs, rfl, .inl ⟨SqL.of (a2.stp.le _ _ hf), h1 _ F2 H1 a2 ?_⟩⟩
      unfold WalkD
      rw [List.length_reverse, ← rr.length]
      refine walk_rev.mono (fun H l => SqL.of (l _ _ hf)) fun i H x H' hi _ y F l1 l => ?_
      obtain ⟨rfl, y⟩ := y
      rw [rev_at hi] at y
      exact walk_at rr.reverse y l1 l
  | tup ds =>
    have h1 : ∀ J F' H', After C F H g1 F' H' → WalkD C J ds.reverse F' (fun H => Le F' H) → R J H' := by cases t <;> first | exact h1 | exact absurd rfl nb
    cases r2 with
    | tup hf hz rr =>
      rename_i a vs
      refine ⟨a, vs, rfl, .inr ⟨SqT.of (a2.stp.le _ _ hf), h1 _ F2 H1 a2 ?_⟩⟩
      unfold WalkD
      rw [List.length_reverse, ← rr.length]
      refine ⟨fun i H hi q => ⟨hi, vs, vs[vs.length - 1 - i]'(by omega), SqT.of (q _ _ hf), by simp [show vs.length - 1 - i < vs.length by omega]⟩, fun _ _ => Nat.le_refl _, fun i H x H' hi q y F l1 l => ?_⟩
      obtain ⟨rfl, y⟩ := y
      have y := y vs (SqT.of (q _ _ hf))
      rw [rev_at hi] at y
      exact walk_at rr.reverse y l1 l
  | _ => cases t <;> exact h1.elim
theorem enum_at : ∀ (ds : List D) (k : Int) (i : Nat) (d : D), ds[i]? = some d → (enumD k ds)[i]? = some (.tup [.int (k + i), d])
  | [], _, _, _, h => by simp at h
  | x :: ds, k, 0, d, h => by simp at h; subst h; simp [enumD]
  | x :: ds, k, i + 1, d, h => by
    rw [enumD, List.getElem?_cons_succ, enum_at ds (k + 1) i d (by simpa using h)]
    congr 4
    omega
theorem enum_len : ∀ (ds : List D) (k : Int), (enumD k ds).length = ds.length
  | [], _ => rfl
  | x :: ds, k => by rw [enumD, List.length_cons, enum_len ds, List.length_cons]
theorem two_line : ([] : List V).length + 2 ≤ sizeLine := by rw [sizeLine_eq]; decide
/-- a new pair in the walk -/
theorem pair_at {F F1 H : Hp} {T : Addr} {x y : V} {dx dy : D} (l1 : Le F1 F) (l : Le F H) (hT : H T = none) (rx : Rep C F1 x dx) (ry : Rep C F1 y dy) : ∃ F', Quiet C F H F' (upd H T (.tup [x, y])) ∧ Rep C F' (.ref T) (.tup [dx, dy]) := by
  have q : Quiet C F H (upd F T (.tup [x, y])) (upd H T (.tup [x, y])) := .newSh l hT
  exact ⟨_, q, .tup upd_same two_line (.cons ((rx.le l1).le q.stp.ff) (.cons ((ry.le l1).le q.stp.ff) .nil))⟩
theorem si_enumL {elts : List Expr} {kk : Nat} {tpos : Pos} (hg : Gl X "enumerate") (hm : X.mg "enumerate" = none) (he : SE X C W e f) (hs : starEach [e] X.env = (false, eval e X.env) :: starEach [] X.env := by rfl) :
    PI X (.Tuple elts kk tpos) (.Call (.Name "enumerate" p) [e] [] pos) (fun σ H R => tI C W (iEnum (iSeq (fun ρ g => (f ρ g).bind fun b g1 => match b.d with | .lst _ => .ok b g1 | _ => .no))) σ H R) := by
  refine pi_imp (pi_enum hg hm (pa_cons he pa_nil hs) (by rw [hs]; rfl)) ?_
  rintro σ H R ⟨F0, H0, F, ρ, g, rel, h⟩
  unfold iEnum iSeq at h
  simp only [onOk_bind] at h
  refine ⟨F0, H0, F, ρ, g, rel, onOk_mono h (fun b g1 h1 v F1 H1 a1 r1 => ?_) fun x g1 h1 => h1⟩
  obtain ⟨t, d⟩ := b
  cases d with
  | lst ds =>
    have nb : t ≠ .bw := fun z => by subst z; exact h1.elim
    obtain ⟨F2, a2, r2, l2⟩ := r1.freeze a1 nb
    have h1 : ∀ J F' H', After C F H g1 F' H' → WalkD C J (enumD 0 ds) F' (fun H => Le F' H) → R J H' := by cases t <;> first | exact h1 | exact absurd rfl nb
    cases r2 with
    | lst hf hz rr =>
      rename_i a vs
      refine ⟨a, vs, rfl, SqL.of (a2.stp.le _ _ hf), h1 _ F2 H1 a2 ?_⟩
      unfold WalkD
      rw [enum_len, ← rr.length]
      refine walk_enum.mono (fun H l => SqL.of (l _ _ hf)) fun i H x H' hi _ y F l1 l => ?_
      obtain ⟨T, x1, y1, rfl, hT, rfl, e1, e2⟩ := y
      cases e1
      obtain ⟨d, hd, rd⟩ := rr.getV e2
      obtain ⟨F', q, r⟩ := pair_at l1 l hT (.int (i : Nat)) rd
      refine ⟨F', _, q, ?_, r⟩
      have := enum_at ds 0 i d hd
      rw [this]
      simp
  | _ => exact h1.elim
end

/-! ### a def by its body -/
section
variable {P : Program} {w : World} {K : PySem.W.Frag} {mg : Str → Option Value} {base : Heap}
theorem start_get {n : Nat} {vs : List V} {ds : List D} {F : Hp} (r : Reps C F vs ds) {i : Nat} {b : B} (h : (ro0 n ds)[i]? = some (some b)) : ∃ v, (vs.map some ++ List.replicate (n - vs.length) none)[i]? = some (some v) ∧ b.t = .sh ∧ Rep C F v b.d := by
  unfold ro0 at h
  by_cases hi : i < ds.length
  · rw [List.getElem?_append_left (by simpa using hi), List.getElem?_map] at h
    cases q : ds[i]? with
    | none => rw [q] at h; cases h
    | some d =>
      rw [q] at h
      cases h
      obtain ⟨v, h1, h2⟩ := r.get q
      refine ⟨v, ?_, rfl, h2⟩
      rw [List.getElem?_append_left (by rw [List.length_map, r.length]; exact hi), List.getElem?_map, h1]
      rfl
  · rw [List.getElem?_append_right (by simpa using Nat.le_of_not_lt hi), List.getElem?_replicate] at h
    split at h <;> cases h
/-- the frame at a def's entry -/
theorem rel_start {N : List Str} {vs : List V} {ds : List D} {F H : Hp} {g : G} (l : Le F H) (st : StOk C F g H) (tb : TabsC C F H) (r : Reps C F vs ds) (he : ∀ p, C.ent = some p → F = p.1 ∧ H = p.2) : Rel C F H F (ro0 N.length ds) g (L2.start N vs) H := by
  refine ⟨.refl l, st, tb, ?_, fun i b h => ?_, fun i j bi bj a hi hj ti tj _ _ => ?_, he⟩
  · unfold ro0 L2.start
    simp only [List.length_append, List.length_map, List.length_replicate, r.length]
  · obtain ⟨v, h1, h2, h3⟩ := start_get r h
    refine ⟨v, h1, ?_⟩
    unfold RS
    rw [h2]
    exact h3
  · obtain ⟨_, _, h2, _⟩ := start_get r hi
    rw [h2] at ti
    cases ti
theorem post_fn {F0 H0 : Hp} {Q : VK} {E : XK} {r : SR} (h : onOk (ends r) (fun b g' => ∀ v F' H', After C F0 H0 g' F' H' → RB C H0 F' H' v b → Q v H') (fun x g' => ∀ cls d F' H', After C F0 H0 g' F' H' → ExR C F' x cls d → E cls d H')) :
    PostS C (fun cls d _ H => E cls d H) F0 H0 F0 { nx := fun _ H' => Q .non H', rt := Q } r := by
  cases r with
  | nx ρ g => exact fun σ F H _ rel => h .non F H ⟨rel.stp, rel.st, rel.tabs⟩ .non
  | rt b g => exact h
  | er x ρ g => exact fun cls d σ F H _ rel e => h cls d F H ⟨rel.stp, rel.st, rel.tabs⟩ e
  | bk ρ g => exact h.elim
  | ct ρ g => exact h.elim
  | no => exact h.elim
/-- a def's code object -/
def codeAt (K : PySem.W.Frag) (f : Addr) : Addr := match K.lookup f with
  | some ⟨_, _, .func fd, _⟩ => (match fd.code with | .ref c => c | _ => 0)
  | _ => 0
theorem codeAt_eq {K : PySem.W.Frag} {f : Addr} {oc cdv dV kV doc pm ct : Value} {od an : Option Addr} {osl : Array (Option Value)} {x qual : Str} {params : Arguments} {body : List Stmt} {scope : Scope} {q : Str}
    (lk : K.lookup f = some ⟨oc, od, .func (PySem.W.fnOf x qual params body scope dV kV doc pm an cdv ct), osl⟩) (h : PySem.W.codeIn K cdv q = true) : cdv = .ref (codeAt K f) := by
  unfold codeAt
  rw [lk]
  cases cdv with
  | ref c => rfl
  | _ => cases h
theorem fn_body {x qual : Str} {st : Stmt} {f : Addr} {fd : FuncData} {N ps : List Str} {k : Nat} {body : S} (he : C.ent = none) (Fd : FunD K x qual (defArgs st) (defBody st) (defScope st) [] [] f fd) (Sc : FnScope N ps (defScope st))
    (hb : ∀ (A : Around) (outer : List Env) (s : Shared) (H : Hp) (E : XK), Room k (A.deeper (envOfC qual (defScope st) s.heap.objs.size f (.ref (codeAt K f)))) → (A.deeper (envOfC qual (defScope st) s.heap.objs.size f (.ref (codeAt K f)))).guards = some [] →
      SSs (cxOf (L2.CX P w) P w K mg base N qual (defScope st) f (.ref (codeAt K f)) A outer s H E) C (fun cls d _ H => E cls d H) (defBody st) body) : FnG P w K mg base (k + 1) f fd ps (spF C (fnOf ps.length N.length body)) := by
  have hlen : ∀ vs H Q E, spF C (fnOf ps.length N.length body) vs H Q E → vs.length = ps.length := by
    rintro vs H Q E ⟨F, g, ds, l, st, tb, r, h⟩
    unfold fnOf at h
    split at h
    · rename_i e
      rw [r.length]
      exact e
    · exact h.elim
  obtain ⟨oc, od, dV, kV, doc, pm, an, cdv, ct, osl, rfl, lk, hcd, -, -⟩ := Fd.ex
  obtain rfl := codeAt_eq lk hcd
  refine ⟨hlen, fun A outer s H args us vs Q E hr hgd e0 bound r hsp => ?_⟩
  have kp : ∀ b o, base.get? b = some o → s.heap.get? b = some o := fun b o e => (e0.bs b o e).1
  have KX : K.In s.heap := e0.mod.kin.keeps kp
  have kinds : ∀ y ∈ ps.zip us, (defScope st).names.lookup y.1 = some .local ∨ ((defScope st).names.lookup y.1 = some .cell ∧ ((cellsFrom (s.heap.objs.size + 1) (defScope st).names []).lookup y.1).isSome = true) := by
    rintro ⟨n, v⟩ hy
    rcases Sc.par n (List.of_mem_zip hy).1 with q | q
    · exact .inl q
    · exact .inr ⟨q, PySem.W.cellsFrom_some _ _ _ (.inl q)⟩
  refine codeAny_call_function hr.depth (KX _ _ lk) rfl Sc.co Sc.gen rfl (PySem.W.codeRec_of KX hcd) (bound _ _ _ _ ?_)
  refine wpAny_newFunctionEnv_cells Sc.kind kinds fun env henv s1 made => ?_
  subst henv
  refine ⟨(e0.mod.nolimit.keeps kp).keeps made.toInCall.keep, codeAny_func ?_⟩
  obtain ⟨F, g, ds, l, sto, tb, rr, hh⟩ := id hsp
  have arity : ds.length = ps.length := by rw [← rr.length]; exact hlen _ _ _ _ hsp
  unfold fnOf at hh
  rw [if_pos arity] at hh
  have start := inv_start (CX := L2.CX P w) (E := E) Sc hr.hd e0 (hlen _ _ _ _ hsp) r made
  have go := (hb A outer s H E (hr.deeper _) hgd).run [] s1 (L2.start N vs) H { nx := fun _ H' => Q .non H', rt := Q } start ⟨F, H, F, ro0 N.length ds, g, rel_start l sto tb rr (fun p z => by rw [he] at z; cases z), post_fn hh⟩
  refine wpAny_mono go (fun fl s' got => ?_) fun e s' got => got
  cases fl with
  | ret u =>
    obtain ⟨v, σ', H', J, rv, q⟩ := got
    exact ⟨v, H', J.os, J.bare, J.base, J.hok, rv, q⟩
  | next =>
    obtain ⟨σ', H', J, q⟩ := got
    exact ⟨V.non, H', J.os, J.bare, J.base, J.hok, rfl, q⟩
  | brk =>
    obtain ⟨_, _, _, q⟩ := got
    exact q.elim
  | cont =>
    obtain ⟨_, _, _, q⟩ := got
    exact q.elim
end
end
end Sx

set_option Elab.async false
set_option linter.all false
set_option maxRecDepth 100000
set_option maxHeartbeats 4000000
/-! Sx10: own exceptions over ValueError whose __init__ says super().__init__(text, ..) first. -/
namespace PySem
namespace SxE
open PySem.W PySem.Calls PyProof.Rows PySem.HandSPX
/-! ### the text of __init__, one field -/
def xA1 (f : Str) (p1 p2 : Pos) : Arguments := { posonlyargs := [], args := [{ arg := "self", annotation := none, pos := p1 }, { arg := f, annotation := none, pos := p2 }], vararg := none, kwonlyargs := [], kw_defaults := [], kwarg := none, defaults := [] }
def xC1 (msg f : Str) (j : Nat) (q1 q2 q3 q4 q5 q6 q7 : Pos) : Stmt := .Expr (.Call (.Attribute (.Call (.Name "super" q1) [] [] q2) "__init__" q3) [.Constant (.str msg) j q4, .Name f q5] [] q6) q7
def xB1 (msg f : Str) (j : Nat) (q1 q2 q3 q4 q5 q6 q7 r1 r2 r3 r4 : Pos) : List Stmt := [xC1 msg f j q1 q2 q3 q4 q5 q6 q7, .Assign [.Attribute (.Name "self" r1) f r2] (.Name f r3) r4]
def xS1 (f : Str) : Scope := { kind := .function, names := [(PySem.Str.ofString "self", .local), (f, .local), (PySem.Str.ofString "__class__", .free), (PySem.Str.ofString "super", .globalImplicit)], isGenerator := false, isCoroutine := false, more := [] }
/-! ### none -/
def xA0 (p1 : Pos) : Arguments := { posonlyargs := [], args := [{ arg := "self", annotation := none, pos := p1 }], vararg := none, kwonlyargs := [], kw_defaults := [], kwarg := none, defaults := [] }
def xB0 (msg : Str) (j : Nat) (q1 q2 q3 q4 q6 q7 : Pos) : List Stmt := [.Expr (.Call (.Attribute (.Call (.Name "super" q1) [] [] q2) "__init__" q3) [.Constant (.str msg) j q4] [] q6) q7]
def xS0 : Scope := { kind := .function, names := [(PySem.Str.ofString "self", .local), (PySem.Str.ofString "__class__", .free), (PySem.Str.ofString "super", .globalImplicit)], isGenerator := false, isCoroutine := false, more := [] }
/-- what the written part says of the class at C, and of its __init__, at fI, whose parameters, body, scope are these -/
structure XTxt (P : Program) (K : Frag) (C fI : Addr) (qual : Str) (params : Arguments) (body : List Stmt) (scope : Scope) : Prop where
  cls : ∃ nm q N bs bm sn sub ab col dd k0 k1 k2 k3 k5, K.lookup C = some (excClassObj nm q C N bs bm true sn sub ab col dd k0 k1 k2 k3 k5 "ValueError.__new__") ∧ refsVE bm = true
  sa : findIn K (.ref C) "__setattr__" = some (some (.builtin "object.__setattr__"))
  ga : findIn K (.ref C) "__getattribute__" = some (some (.builtin "BaseException.__getattribute__"))
  gg : findIn K (.ref C) "__getattr__" = some none
  iC : findIn K (.ref C) "__init__" = some (some (.ref fI))
  tC : typeIn K (.ref fI) = some (.type "function")
  kC : keepIn K (.ref C) = true
  exC : subIn K (.ref C) (.type "BaseException") = some true
  veC : subIn K (.ref C) (.type "ValueError") = some true
  tyC : typeIn K (.ref C) = some (.type "type")
  hdC : hasDictIn K C = true
  slf : mroIn K C (.ref C) = some true
  sup : ks_superIn K C C "__init__" = some (some (.builtin "ValueError.__init__"))
  opq : nsIn K cStatics "thirdparty.any" = some none
  nosup : nsIn K mainGlobals "super" = some none
  top : (P.main.scope.names.lookup ("super" : Str)).isSome = false
  fn : ∃ (oc : Value) (od : Option Addr) (doc pm : Value) (an : Option Addr) (cda : Addr) (ct : Value) (cc : Addr) (osl : Array (Option Value)) (ccl : Value) (cdd : Option Addr) (vs : Array Value) (ccs : Array (Option Value)) (file : Str) (tf : Tok) (cl : Value) (cld : Option Addr) (csl : Array (Option Value)),
    K.lookup fI = some ⟨oc, od, .func (ksFn "__init__" qual params body scope .none .none doc pm an (.ref cda) ct cc), osl⟩ ∧ codeIn K (.ref cda) qual = true ∧
    K.lookup cda = some ⟨ccl, cdd, .fields vs, ccs⟩ ∧ vs[2]? = some (.str file tf) ∧ ((P.main.file : Str) == file) = true ∧ K.lookup cc = some ⟨cl, cld, .cell (some (.ref C)), csl⟩
section
variable {prog : Program} {w : World} {A : Around} {E : Value → Shared → Prop} {h : Heap} {g : Array GenState} {d : Drawn} {t : Nat} {os : OsState}
variable {nm q : Str} {C N : Addr} {bs bm : List Value} {hdct : Bool} {sn : List Str} {sub : List Value} {ab : Bool} {col : Option Bool} {dd : Option Addr} {k0 k1 k2 k3 k5 : Option Value}
/-- the built-in __init__, bound, called -/
theorem call_mw {u e t0 : Addr} {rest : List Value} {Q : Value → Shared → Prop}
    (hC : h.get? C = some (excClassObj nm q C N bs bm hdct sn sub ab col dd k0 k1 k2 k3 k5 "ValueError.__new__")) (he : h.get? e = some (excO C t0)) (hu : h.get? u = some (kxs_mw "ValueError.__init__" e)) (hrest : rest.length ≤ sizeLine)
    (hq : ∀ h' t1, (∀ b o, b ≠ e → h.get? b = some o → h'.get? b = some o) → h'.get? e = some (excO C t1) → Q .none ⟨h', g, d, t, os⟩) :
    wpAny (model prog w) A (call (.ref u) rest) Q E ⟨h, g, d, t, os⟩ := by
  refine wpAny_call (codeAny_of_tree ?_)
  show wpAny _ A.in1 (callAny (.ref u) ⟨rest, []⟩) _ _ _
  simp only [callAny]
  refine wpAny_bind (wpAny_load hu ?_)
  simp only [kxs_mw, show (Value.type "method-wrapper" == Value.type "method" || Value.type "method-wrapper" == Value.type "builtin_function_or_method" || Value.type "method-wrapper" == Value.type "method-wrapper") = true by decide, if_true]
  refine W.KFB.if_so (by decide) ?_
  refine wpAny_bind (ESX.check_bound F.excBase_ValueError hC he rfl ?_)
  refine wpAny_bind (wpAny_pure (wpAny_pure ?_))
  refine ⟨Code.quiet_builtin _ (by decide +kernel), codeAny_builtin F.excBase_ValueError.initEntry ?_⟩
  rw [Around.under_plainId F.excBase_ValueError.init.plain _]
  wp_walk
  refine hq _ h.objs.size (fun b o hb ho => ?_) ?_
  · rw [Heap.get?_update_other _ _ (Ne.symm hb)]
    exact Heap.get?_push_of_some _ ho
  · rw [Heap.get?_update_self _ (Heap.get?_push_of_some _ he) rfl]
    rfl
end
/-- what __init__ leaves of a fresh exception at x -/
structure InitEnd (h h' : Heap) (x C dx t1 : Addr) (f : Str) (v : Value) : Prop where
  keep : ∀ b o, b ≠ x → h.get? b = some o → h'.get? b = some o
  obj : h'.get? x = some { cls := .ref C, dict := some dx, data := .fields #[.ref t1, .none, .none, .none, .bool false, .none] }
  dbig : h.objs.size ≤ dx
  dne : dx ≠ x
  ns : h'.Ns1 dx (fun y => if y = f then some v else none)
structure InitEnd0 (h h' : Heap) (x C t1 : Addr) : Prop where
  keep : ∀ b o, b ≠ x → h.get? b = some o → h'.get? b = some o
  obj : h'.get? x = some (excO C t1)
section
variable {prog : Program} {w : World} {A : Around} {E : Value → Shared → Prop} {R : Result → Shared → Prop} {s : Shared} {K : Frag} {mg mb : Str → Option Value} {C fI : Addr} {qual msg f : Str}
theorem ldK {M : Model} {s : Shared} {name : Str} {scope : Scope} {L a : Addr} {cd : Value} {cc : Addr} {m : Str → Option Value} {x : Str} {pos : Pos} {v : Value} {Q : Value → Shared → Prop} {A : Around} {E : Value → Shared → Prop} (hn : s.heap.Ns L m) (hv : m x = some v) (h : Q v s)
    (hk : scope.kind = .function) (hl : scope.names.lookup x = some .local) (hd : (x == ("__debug__" : Str)) = false) :
    wpAny M A (eval (.Name x pos) (ksEnv name scope L a cd cc)) Q E s := wpAny_Name (wpAny_loadName_local hk hl hn hv h) hd
/-- super().__init__(..) as the first statement -/
theorem super_first {params : Arguments} {body : List Stmt} {scope : Scope} (T : XTxt prog K C fI qual params body scope) {x t0 L : Addr} {m : Str → Option Value} {ar : Arg} {cda cc : Addr} {oc ct doc pm : Value} {od an : Option Addr} {osl : Array (Option Value)} {ccl : Value} {cdd : Option Addr} {vs : Array Value} {ccs : Array (Option Value)} {file : Str} {tf : Tok} {cl : Value} {cld : Option Addr} {csl : Array (Option Value)}
    {e0 : Expr} {rest : List Expr} {q1 q2 q3 q6 q7 : Pos} {Q : Flow → Shared → Prop} {bd : List Stmt}
    (X : K.In s.heap) (hx : s.heap.get? x = some (excO C t0)) (hns : s.heap.Ns L m) (hm : m "self" = some (.ref x)) (G : s.heap.Ns mainGlobals mg) (B : s.heap.Ns builtinsNs mb) (hmb : mb "super" = some (.type "super"))
    (hf : K.lookup fI = some ⟨oc, od, .func (ksFn "__init__" qual params body scope .none .none doc pm an (.ref cda) ct cc), osl⟩) (hcode : K.lookup cda = some ⟨ccl, cdd, .fields vs, ccs⟩) (hvs : vs[2]? = some (.str file tf)) (hfile : ((prog.main.file : Str) == file) = true)
    (hcell : K.lookup cc = some ⟨cl, cld, .cell (some (.ref C)), csl⟩) (hp : (params.posonlyargs ++ params.args).head? = some ar) (har : ar.arg = "self")
    (hks : scope.names.lookup ("super" : Str) = some .globalImplicit) (hkc : scope.names.lookup ("__class__" : Str) = some .free) (hka : scope.names.lookup ("self" : Str) = some .local) (hk : scope.kind = .function) 
    (hargs : ∀ (s1 : Shared), (∀ b o, s.heap.get? b = some o → s1.heap.get? b = some o) → s1.heap.Ns L m → (∀ (Q' : List Value → Shared → Prop), (∀ us tk, us.length ≤ sizeLine → Q' us { s1 with toks := tk }) → wpAny (model prog w) A (spliced (backTo q6 (starEach (e0 :: rest) (ksEnv qual scope L fI (.ref cda) cc)))) Q' E s1))
    (he : starEach (e0 :: rest) (ksEnv qual scope L fI (.ref cda) cc) = (false, eval e0 (ksEnv qual scope L fI (.ref cda) cc)) :: starEach rest (ksEnv qual scope L fI (.ref cda) cc)) (hplain : (backTo q6 (starEach rest (ksEnv qual scope L fI (.ref cda) cc))).any (·.1) = false)
    (hint : interactive (ksEnv qual scope L fI (.ref cda) cc) = false)
    (hmc : ∃ pl : Sem Bool, eval (.Call (.Attribute (.Call (.Name "super" q1) [] [] q2) "__init__" q3) (e0 :: rest) [] q6) (ksEnv qual scope L fI (.ref cda) cc) = (do
        let ov ← attributeBase (.Call (.Name "super" q1) [] [] q2) "__init__" (ksEnv qual scope L fI (.ref cda) cc) (eval (.Call (.Name "super" q1) [] [] q2) (ksEnv qual scope L fI (.ref cda) cc))
        standAt q3.atName
        let (f, first) ← holding [ov] (getMethod ov "__init__" pl)
        callWith q6 f first (backTo q6 (starEach (e0 :: rest) (ksEnv qual scope L fI (.ref cda) cc))) []))
    (hsw : swapsWith (.Call (.Attribute (.Call (.Name "super" q1) [] [] q2) "__init__" q3) (e0 :: rest) [] q6) none q7.line (ksEnv qual scope L fI (.ref cda) cc) = pure false)
    (hq : ∀ h' tk t1, (∀ b o, b ≠ x → s.heap.get? b = some o → h'.get? b = some o) → h'.get? x = some (excO C t1) → Q .next { s with heap := h', toks := tk }) :
    _root_.PySem.wpAt (model prog w) A (.func bd (ksEnv qual scope L fI (.ref cda) cc)) (exec (.Expr (.Call (.Attribute (.Call (.Name "super" q1) [] [] q2) "__init__" q3) (e0 :: rest) [] q6) q7) (ksEnv qual scope L fI (.ref cda) cc)) Q E s := by
  obtain ⟨nm, q, N, bs, bm, sn, sub, ab, col, dd, k0, k1, k2, k3, k5, hC, hbm⟩ := T.cls
  obtain ⟨pl, hmc⟩ := hmc
  have hcl : clsIn K C = some { name := nm, bases := bs, mro := .ref C :: bm, ns := N, qualname := q, hasDict := true, slotNames := sn, subclasses := sub, abstract := ab, collection := col, hasDel := false } := by unfold clsIn; rw [hC] <;> rfl
  have hD1 := X _ _ hC
  refine ks_wpAt_Expr_any ?_ hint hsw
  refine ks_wpAt_MethodCall (pl := pl) ?_ hmc
  refine ks_wpAt_super_base (env := ksEnv qual scope L fI (.ref cda) cc) hks hkc (by decide) rfl (X _ _ hf) rfl hp rfl (X _ _ hcode) rfl hvs hfile T.top ?_
  refine ks_loadName_global hk hks (loadGlobal_builtin (env := ksEnv qual scope L fI (.ref cda) cc) G (mg_none_of X G T.nosup) B hmb ⟨rfl, ?_⟩)
  refine wpAny_loadName_free hk hkc rfl ⟨_, X _ _ hcell, rfl⟩ ?_
  rw [har]
  refine wpAny_loadName_local hk hka hns hm ?_
  refine ks_wpAny_isType_cls hD1 rfl ⟨rfl, ?_⟩
  obtain ⟨hp0, g, d, t, os⟩ := s
  have hxC : x ≠ C := fun z => by
    rw [z] at hx
    have e := hD1.symm.trans hx
    cases e
  refine ks_wpAny_call_super hD1 rfl hx rfl (fun c e => by cases e) (looks_mroIn X T.slf) (fun h1 e1 kk1 => ?_)
  have X1 : K.In h1 := X.keeps kk1
  have I1 : InstAt h1 x (excO C t0) C none := ⟨kk1 _ _ hx, rfl, rfl, trivial⟩
  have hsup : alongIn K "__init__" ((((Value.ref C :: bm)).dropWhile (· != .ref C)).drop 1) = some (some (.builtin "ValueError.__init__")) := by
    have e := T.sup
    unfold ks_superIn at e
    rw [hcl] at e
    exact e
  have hI : Looks (model prog w) h1 (isInstance (.ref x) (.type "ValueError")) true := I1.type.andThen (looks_subIn X1 T.veC)
  refine kxs_getMethod kxs_ValueError e1 (looks_opaque X1 T.opq) (l₀ := .ref C :: bm) ?_ rfl X1 hsup hI hxC (by decide) ?_
  · exact fun A Q E s k q => wpAny_bind ((looks_clsIn X1 hcl) A _ E s k (wpAny_pure q))
  have kk2 : ∀ b o, hp0.get? b = some o → (h1.push (kxs_mw "ValueError.__init__" x)).get? b = some o := fun b o e => Heap.get?_push_of_some _ (kk1 b o e)
  have ha := hargs ⟨h1.push (kxs_mw "ValueError.__init__" x), g, d, t + 1, os⟩ kk2 (hns.keeps kk2)
  rw [he] at ha ⊢
  refine kxs_callWith (i := "ValueError.__init__") (x := x) (by show (false || (backTo q6 (starEach rest (ksEnv qual scope L fI (.ref cda) cc))).any (·.1)) = false; rw [hplain]; rfl) (evalArgs_plain ?_)
  refine ha _ fun us tk hlen => ⟨Heap.get?_push_at rfl rfl, ?_⟩
  show wpAny _ _ (call (.ref h1.objs.size) us) _ _ ⟨h1.push (kxs_mw "ValueError.__init__" x), g, d, tk, os⟩
  refine call_mw (Heap.get?_push_of_some _ (X1 _ _ hC)) (kk2 _ _ hx) (Heap.get?_push_at rfl rfl) hlen fun h' t1 k' hx' => ?_
  exact hq h' tk t1 (fun b o hb e => k' b o hb (kk2 b o e)) hx'
theorem x_init1 {p1 p2 q1 q2 q3 q4 q5 q6 q7 r1 r2 r3 r4 : Pos} {j : Nat} (T : XTxt prog K C fI qual (xA1 f p1 p2) (xB1 msg f j q1 q2 q3 q4 q5 q6 q7 r1 r2 r3 r4) (xS1 f)) (noN : findIn K (.ref C) f = some none)
    (hbind : ∀ (x v doc pm ct : Value) (an : Option Addr) (cda cc : Addr), bindArgs (ksFn "__init__" qual (xA1 f p1 p2) (xB1 msg f j q1 q2 q3 q4 q5 q6 q7 r1 r2 r3 r4) (xS1 f) .none .none doc pm an (.ref cda) ct cc) ⟨[x, v], []⟩ = pure [(("self" : Str), x), (f, v)])
    (hmc : ∀ (L cda cc : Addr), ∃ pl : Sem Bool, eval (.Call (.Attribute (.Call (.Name "super" q1) [] [] q2) "__init__" q3) [.Constant (.str msg) j q4, .Name f q5] [] q6) (ksEnv qual (xS1 f) L fI (.ref cda) cc) = (do
        let ov ← attributeBase (.Call (.Name "super" q1) [] [] q2) "__init__" (ksEnv qual (xS1 f) L fI (.ref cda) cc) (eval (.Call (.Name "super" q1) [] [] q2) (ksEnv qual (xS1 f) L fI (.ref cda) cc))
        standAt q3.atName
        let (g, first) ← holding [ov] (getMethod ov "__init__" pl)
        callWith q6 g first (backTo q6 (starEach [.Constant (.str msg) j q4, .Name f q5] (ksEnv qual (xS1 f) L fI (.ref cda) cc))) []))
    (hf1 : ((xS1 f).names.lookup f) = some .local) (hf2 : (("self" : Str) == f) = false) (hf3 : (f == ("__debug__" : Str)) = false) (hks : (xS1 f).names.lookup ("super" : Str) = some .globalImplicit) (hkc : (xS1 f).names.lookup ("__class__" : Str) = some .free) {x t0 : Addr} {v : Value} (X : K.In s.heap) (hlim : s.heap.NoLimit) (hx : s.heap.get? x = some (excO C t0)) (hnx : K.lookup x = none) (hroom : A.depth < recursionLimit)
    (G : s.heap.Ns mainGlobals mg) (B : s.heap.Ns builtinsNs mb) (hmb : mb "super" = some (.type "super"))
    (hq : ∀ h' tk dx t1, InitEnd s.heap h' x C dx t1 f v → R (.ok (.ret .none)) { s with heap := h', toks := tk }) :
    codeAny (model prog w) A (.call (.ref fI) ⟨[.ref x, v], []⟩) R s := by
  obtain ⟨oc, od, doc, pm, an, cda, ct, cc, osl, ccl, cdd, vs, ccs, file, tf, cl, cld, csl, ho, hcd, hcode, hvs, hfile, hcell⟩ := T.fn
  obtain ⟨nm, q, N, bs, bm, sn, sub, ab, col, dd, k0, k1, k2, k3, k5, hC, hbm⟩ := T.cls
  have hcl : clsIn K C = some { name := nm, bases := bs, mro := .ref C :: bm, ns := N, qualname := q, hasDict := true, slotNames := sn, subclasses := sub, abstract := ab, collection := col, hasDel := false } := by unfold clsIn; rw [hC] <;> rfl
  have hself : (xS1 f).names.lookup ("self" : Str) = some .local := rfl
  refine ks_codeAny_call_defAt (fd := ksFn "__init__" qual (xA1 f p1 p2) (xB1 msg f j q1 q2 q3 q4 q5 q6 q7 r1 r2 r3 r4) (xS1 f) .none .none doc pm an (.ref cda) ct cc) (body := xB1 msg f j q1 q2 q3 q4 q5 q6 q7 r1 r2 r3 r4) (binds := [(("self" : Str), .ref x), (f, v)])
    hroom (X _ _ ho) rfl hlim (codeRec_of X hcd) rfl (BindsTo.of_eq (hbind _ _ _ _ _ _ _ _)) (fun y hy => ?_) (fun y hy => ?_) (fun h₀ hns k => ?_)
  · simp only [ksFn, fnX, xS1, List.mem_cons, List.mem_nil_iff, or_false] at hy
    rcases hy with rfl | rfl | rfl | rfl <;> simp
  · simp only [List.mem_cons, List.mem_nil_iff, or_false] at hy
    rcases hy with rfl | rfl
    · exact hself
    · exact hf1
  · have X₁ : K.In h₀ := X.keeps k
    have m1 : (([("self", Value.ref x), (f, v)] : List (Str × Value)).reverse.lookup ("self" : Str)) = some (.ref x) := by
      show List.lookup ("self" : Str) [(f, v), (("self" : Str), Value.ref x)] = _
      simp [List.lookup, hf2]
    have m2 : (([("self", Value.ref x), (f, v)] : List (Str × Value)).reverse.lookup f) = some v := by
      show List.lookup f [(f, v), (("self" : Str), Value.ref x)] = _
      simp [List.lookup]
    refine ks_wpAt_execs_cons (super_first (s := { s with heap := h₀, toks := s.toks + ([("self", Value.ref x), (f, v)] : List (Str × Value)).length }) T X₁ (k _ _ hx) hns m1 (G.keeps k) (B.keeps k) hmb ho hcode hvs hfile hcell rfl rfl hks hkc hself rfl ?_ rfl rfl rfl (hmc _ _ _) rfl fun h' tk t1 k' hx' => ?_)
    · intro s1 k1 hn1 Q' hQ
      show wpAny _ _ (spliced ((false, eval (.Constant (.str msg) j q4) (ksEnv qual (xS1 f) s.heap.objs.size fI (.ref cda) cc)) :: (false, eval (.Name f q5) (ksEnv qual (xS1 f) s.heap.objs.size fI (.ref cda) cc)) :: [])) Q' _ s1
      refine spliced_cons (Constant_str ?_)
      refine spliced_cons (ldK (v := v) hn1 m2 (spliced_nil (hQ _ _ (by show 2 ≤ sizeLine; rw [sizeLine_eq]; decide))) rfl hf1 hf3)
    · refine wpAt_of_wpAny ?_
      have hxL : s.heap.objs.size ≠ x := Nat.ne_of_gt (Heap.lt_size hx)
      have hn' : Heap.Ns h' s.heap.objs.size (fun y => ([(("self" : Str), Value.ref x), (f, v)] : List (Str × Value)).reverse.lookup y) := hns.at fun o q => k' _ o hxL q
      have X' : K.In h' := fun a o e => k' a o (fun z => by rw [z, hnx] at e; cases e) (X₁ a o e)
      refine wpAny_execs_cons (plainObj_wpAny_Assign_Attribute ?_)
      refine ldK (v := v) hn' m2 (ldK (v := .ref x) hn' m1 ?_ rfl hself (by decide)) rfl hf1 hf3
      refine set_plain X' (ox := excO C t1) (od := none) ⟨hx', rfl, rfl, trivial⟩ T.sa ?_
      refine exc_osa X' hx' hcl (show refsVE (.ref C :: bm) = true from hbm) rfl noN (fun h₃ tk₃ dx k₃ dn dne hx₃ hn₃ => ?_)
      show wpAny _ _ (execs _ _) _ _ _
      have z : s.heap.objs.size < h'.objs.size := hn'.lt
      exact wpAny_execs_nil (hq h₃ tk₃ dx t1 ⟨fun b o hb e => k₃ b o hb (k' b o hb (k b o e)), hx₃, Nat.le_of_lt (Nat.lt_of_lt_of_le z dn), dne, hn₃⟩)
theorem x_init0 {p1 q1 q2 q3 q4 q6 q7 : Pos} {j : Nat} (T : XTxt prog K C fI qual (xA0 p1) (xB0 msg j q1 q2 q3 q4 q6 q7) xS0)
    (hbind : ∀ (x doc pm ct : Value) (an : Option Addr) (cda cc : Addr), bindArgs (ksFn "__init__" qual (xA0 p1) (xB0 msg j q1 q2 q3 q4 q6 q7) xS0 .none .none doc pm an (.ref cda) ct cc) ⟨[x], []⟩ = pure [(("self" : Str), x)])
    (hmc : ∀ (L cda cc : Addr), ∃ pl : Sem Bool, eval (.Call (.Attribute (.Call (.Name "super" q1) [] [] q2) "__init__" q3) [.Constant (.str msg) j q4] [] q6) (ksEnv qual xS0 L fI (.ref cda) cc) = (do
        let ov ← attributeBase (.Call (.Name "super" q1) [] [] q2) "__init__" (ksEnv qual xS0 L fI (.ref cda) cc) (eval (.Call (.Name "super" q1) [] [] q2) (ksEnv qual xS0 L fI (.ref cda) cc))
        standAt q3.atName
        let (g, first) ← holding [ov] (getMethod ov "__init__" pl)
        callWith q6 g first (backTo q6 (starEach [.Constant (.str msg) j q4] (ksEnv qual xS0 L fI (.ref cda) cc))) []))
    {x t0 : Addr} (X : K.In s.heap) (hlim : s.heap.NoLimit) (hx : s.heap.get? x = some (excO C t0)) (hroom : A.depth < recursionLimit)
    (G : s.heap.Ns mainGlobals mg) (B : s.heap.Ns builtinsNs mb) (hmb : mb "super" = some (.type "super"))
    (hq : ∀ h' tk t1, InitEnd0 s.heap h' x C t1 → R (.ok (.ret .none)) { s with heap := h', toks := tk }) :
    codeAny (model prog w) A (.call (.ref fI) ⟨[.ref x], []⟩) R s := by
  obtain ⟨oc, od, doc, pm, an, cda, ct, cc, osl, ccl, cdd, vs, ccs, file, tf, cl, cld, csl, ho, hcd, hcode, hvs, hfile, hcell⟩ := T.fn
  have hself : xS0.names.lookup ("self" : Str) = some .local := rfl
  refine ks_codeAny_call_defAt (fd := ksFn "__init__" qual (xA0 p1) (xB0 msg j q1 q2 q3 q4 q6 q7) xS0 .none .none doc pm an (.ref cda) ct cc) (body := xB0 msg j q1 q2 q3 q4 q6 q7) (binds := [(("self" : Str), .ref x)])
    hroom (X _ _ ho) rfl hlim (codeRec_of X hcd) rfl (BindsTo.of_eq (hbind _ _ _ _ _ _ _)) (fun y hy => ?_) (fun y hy => ?_) (fun h₀ hns k => ?_)
  · simp only [ksFn, fnX, xS0, List.mem_cons, List.mem_nil_iff, or_false] at hy
    rcases hy with rfl | rfl | rfl <;> simp
  · simp only [List.mem_cons, List.mem_nil_iff, or_false] at hy
    rcases hy with rfl
    exact hself
  · have X₁ : K.In h₀ := X.keeps k
    have m1 : (([(("self" : Str), Value.ref x)] : List (Str × Value)).reverse.lookup ("self" : Str)) = some (.ref x) := rfl
    refine ks_wpAt_execs_cons (super_first (s := { s with heap := h₀, toks := s.toks + ([("self", Value.ref x)] : List (Str × Value)).length }) T X₁ (k _ _ hx) hns m1 (G.keeps k) (B.keeps k) hmb ho hcode hvs hfile hcell rfl rfl rfl rfl hself rfl ?_ rfl rfl rfl (hmc _ _ _) rfl fun h' tk t1 k' hx' => ?_)
    · intro s1 k1 hn1 Q' hQ
      show wpAny _ _ (spliced ((false, eval (.Constant (.str msg) j q4) (ksEnv qual xS0 s.heap.objs.size fI (.ref cda) cc)) :: [])) Q' _ s1
      refine spliced_cons (Constant_str ?_)
      exact spliced_nil (hQ _ _ (by show 1 ≤ sizeLine; rw [sizeLine_eq]; decide))
    · refine wpAt_of_wpAny ?_
      exact wpAny_execs_nil (hq h' tk t1 ⟨fun b o hb e => k' b o hb (k b o e), hx'⟩)
/-- what is made -/
structure OwnMade (h h' : Heap) (e C d : Addr) (f : Str) (v : Value) : Prop where
  keep : ∀ b o, h.get? b = some o → h'.get? b = some o
  new : h.objs.size ≤ e
  obj : ∃ oe vs, h'.get? e = some oe ∧ oe.cls = .ref C ∧ oe.dict = some d ∧ oe.data = .fields vs ∧ vs[1]? = some .none
  dbig : h.objs.size ≤ d
  dne : d ≠ e
  ns : h'.Ns1 d (fun y => if y = f then some v else none)
structure OwnMade0 (h h' : Heap) (e C : Addr) : Prop where
  keep : ∀ b o, h.get? b = some o → h'.get? b = some o
  new : h.objs.size ≤ e
  obj : ∃ oe vs, h'.get? e = some oe ∧ oe.cls = .ref C ∧ oe.dict = none ∧ oe.data = .fields vs ∧ vs[1]? = some .none
theorem one_size (v : Value) : [v].length ≤ sizeLine := by
  rw [sizeLine_eq]
  exact (by decide : 1 ≤ 16777216)
/-- the facts of a class of one field -/
structure X1 (P : Program) (K : Frag) (C fI : Addr) (f : Str) : Prop where
  ex : ∃ (qual msg : Str) (p1 p2 q1 q2 q3 q4 q5 q6 q7 r1 r2 r3 r4 : Pos) (j : Nat), XTxt P K C fI qual (xA1 f p1 p2) (xB1 msg f j q1 q2 q3 q4 q5 q6 q7 r1 r2 r3 r4) (xS1 f) ∧
    (∀ (x v doc pm ct : Value) (an : Option Addr) (cda cc : Addr), bindArgs (ksFn "__init__" qual (xA1 f p1 p2) (xB1 msg f j q1 q2 q3 q4 q5 q6 q7 r1 r2 r3 r4) (xS1 f) .none .none doc pm an (.ref cda) ct cc) ⟨[x, v], []⟩ = pure [(("self" : Str), x), (f, v)]) ∧
    (∀ (L cda cc : Addr), ∃ pl : Sem Bool, eval (.Call (.Attribute (.Call (.Name "super" q1) [] [] q2) "__init__" q3) [.Constant (.str msg) j q4, .Name f q5] [] q6) (ksEnv qual (xS1 f) L fI (.ref cda) cc) = (do
        let ov ← attributeBase (.Call (.Name "super" q1) [] [] q2) "__init__" (ksEnv qual (xS1 f) L fI (.ref cda) cc) (eval (.Call (.Name "super" q1) [] [] q2) (ksEnv qual (xS1 f) L fI (.ref cda) cc))
        standAt q3.atName
        let (g, first) ← holding [ov] (getMethod ov "__init__" pl)
        callWith q6 g first (backTo q6 (starEach [.Constant (.str msg) j q4, .Name f q5] (ksEnv qual (xS1 f) L fI (.ref cda) cc))) []))
  noN : findIn K (.ref C) f = some none
  f1 : ((xS1 f).names.lookup f) = some .local
  f2 : (("self" : Str) == f) = false
  f3 : (f == ("__debug__" : Str)) = false
  ks : (xS1 f).names.lookup ("super" : Str) = some .globalImplicit
  kc : (xS1 f).names.lookup ("__class__" : Str) = some .free
/-- of none -/
structure X0 (P : Program) (K : Frag) (C fI : Addr) : Prop where
  ex : ∃ (qual msg : Str) (p1 q1 q2 q3 q4 q6 q7 : Pos) (j : Nat), XTxt P K C fI qual (xA0 p1) (xB0 msg j q1 q2 q3 q4 q6 q7) xS0 ∧
    (∀ (x doc pm ct : Value) (an : Option Addr) (cda cc : Addr), bindArgs (ksFn "__init__" qual (xA0 p1) (xB0 msg j q1 q2 q3 q4 q6 q7) xS0 .none .none doc pm an (.ref cda) ct cc) ⟨[x], []⟩ = pure [(("self" : Str), x)]) ∧
    (∀ (L cda cc : Addr), ∃ pl : Sem Bool, eval (.Call (.Attribute (.Call (.Name "super" q1) [] [] q2) "__init__" q3) [.Constant (.str msg) j q4] [] q6) (ksEnv qual xS0 L fI (.ref cda) cc) = (do
        let ov ← attributeBase (.Call (.Name "super" q1) [] [] q2) "__init__" (ksEnv qual xS0 L fI (.ref cda) cc) (eval (.Call (.Name "super" q1) [] [] q2) (ksEnv qual xS0 L fI (.ref cda) cc))
        standAt q3.atName
        let (g, first) ← holding [ov] (getMethod ov "__init__" pl)
        callWith q6 g first (backTo q6 (starEach [.Constant (.str msg) j q4] (ksEnv qual xS0 L fI (.ref cda) cc))) []))
theorem x_made1 (T1 : X1 prog K C fI f) {v : Value} (X : K.In s.heap) (hlim : s.heap.NoLimit) (hroom : A.depth + 1 < recursionLimit) (G : s.heap.Ns mainGlobals mg) (B : s.heap.Ns builtinsNs mb) (hmb : mb "super" = some (.type "super"))
    (hq : ∀ h' tk e d, OwnMade s.heap h' e C d f v → R (.ok (.ret (.ref e))) { s with heap := h', toks := tk }) :
    codeAny (model prog w) A (.call (.ref C) ⟨[v], []⟩) R s := by
  obtain ⟨qual, msg, p1, p2, q1, q2, q3, q4, q5, q6, q7, r1, r2, r3, r4, j, T, hbind, hmc⟩ := T1.ex
  obtain ⟨nm, q, N, bs, bm, sn, sub, ab, col, dd, k0, k1, k2, k3, k5, hC, hbm⟩ := T.cls
  obtain ⟨hp, g, dr, tk, os⟩ := s
  have k : ∀ b o, hp.get? b = some o → ((hp.push (kdv_tup [v])).push (excO C hp.objs.size)).get? b = some o := fun b o e => Heap.get?_push_of_some _ (Heap.get?_push_of_some _ e)
  have hget : ((hp.push (kdv_tup [v])).push (excO C hp.objs.size)).get? (hp.objs.size + 1) = some (excO C hp.objs.size) := by heap_get
  have hnx : K.lookup (hp.objs.size + 1) = none := by
    cases e : K.lookup (hp.objs.size + 1) with
    | none => rfl
    | some o =>
      have z : hp.get? (hp.objs.size + 1) = some o := X _ _ e
      exact absurd (Nat.lt_of_succ_lt (Heap.lt_size z)) (Nat.lt_irrefl _)
  refine call_own F.excBase_ValueError (fun X => refsVE_contains X bm hbm) (X _ _ hC) (looks_findIn X T.iC) (fun self => bind_fn X self T.tC) (one_size v) ?_
  refine x_init1 (s := ⟨(hp.push (kdv_tup [v])).push (excO C hp.objs.size), g, dr, tk, os⟩) (mg := mg) (mb := mb) T T1.noN hbind hmc T1.f1 T1.f2 T1.f3 T1.ks T1.kc (X.keeps k) (hlim.keeps k) hget hnx ?_ (G.keeps k) (B.keeps k) hmb fun h' tk' dx t1 ⟨k', hx, dn, dne, hns⟩ => ?_
  · show A.depth + 1 < recursionLimit
    exact hroom
  · have old : ∀ b o, hp.get? b = some o → h'.get? b = some o := fun b o e => k' b o (Nat.ne_of_lt (Nat.lt_succ_of_lt (Heap.lt_size e))) (k b o e)
    have z : hp.objs.size + 1 + 1 ≤ dx := by
      first
        | (simpa only [Heap.size_push] using dn)
        | exact dn
        | (have q := dn; rw [Heap.size_push, Heap.size_push] at q; exact q)
    exact ⟨rfl, hq h' tk' (hp.objs.size + 1) dx ⟨old, Nat.le_succ _, ⟨_, _, hx, rfl, rfl, rfl, rfl⟩, Nat.le_trans (Nat.le_trans (Nat.le_succ _) (Nat.le_succ _)) z, dne, hns⟩⟩
theorem x_made0 (T1 : X0 prog K C fI) (X : K.In s.heap) (hlim : s.heap.NoLimit) (hroom : A.depth + 1 < recursionLimit) (G : s.heap.Ns mainGlobals mg) (B : s.heap.Ns builtinsNs mb) (hmb : mb "super" = some (.type "super"))
    (hq : ∀ h' tk e, OwnMade0 s.heap h' e C → R (.ok (.ret (.ref e))) { s with heap := h', toks := tk }) :
    codeAny (model prog w) A (.call (.ref C) ⟨[], []⟩) R s := by
  obtain ⟨qual, msg, p1, q1, q2, q3, q4, q6, q7, j, T, hbind, hmc⟩ := T1.ex
  obtain ⟨nm, q, N, bs, bm, sn, sub, ab, col, dd, k0, k1, k2, k3, k5, hC, hbm⟩ := T.cls
  obtain ⟨hp, g, dr, tk, os⟩ := s
  have k : ∀ b o, hp.get? b = some o → ((hp.push (kdv_tup [])).push (excO C hp.objs.size)).get? b = some o := fun b o e => Heap.get?_push_of_some _ (Heap.get?_push_of_some _ e)
  have hget : ((hp.push (kdv_tup [])).push (excO C hp.objs.size)).get? (hp.objs.size + 1) = some (excO C hp.objs.size) := by heap_get
  refine call_own F.excBase_ValueError (fun X => refsVE_contains X bm hbm) (X _ _ hC) (looks_findIn X T.iC) (fun self => bind_fn X self T.tC) (Nat.zero_le _) ?_
  refine x_init0 (s := ⟨(hp.push (kdv_tup [])).push (excO C hp.objs.size), g, dr, tk, os⟩) (mg := mg) (mb := mb) T hbind hmc (X.keeps k) (hlim.keeps k) hget ?_ (G.keeps k) (B.keeps k) hmb fun h' tk' t1 ⟨k', hx⟩ => ?_
  · show A.depth + 1 < recursionLimit
    exact hroom
  · have old : ∀ b o, hp.get? b = some o → h'.get? b = some o := fun b o e => k' b o (Nat.ne_of_lt (Nat.lt_succ_of_lt (Heap.lt_size e))) (k b o e)
    exact ⟨rfl, hq h' tk' (hp.objs.size + 1) ⟨old, Nat.le_succ _, ⟨_, _, hx, rfl, rfl, rfl, rfl⟩⟩⟩
end
end SxE
end PySem

namespace Sx
open PySem PySem.Spec PyProof.Rows L2
theorem relO_one {v : V} {v' : Value} (r : RelV v v') (n f : Str) : RelO (List.lookup f [(n, v)]) (if f = n then some v' else none) := by
  by_cases hw : f = n
  · subst hw
    rw [if_pos rfl]
    have q : List.lookup f [(f, v)] = some v := by simp [List.lookup]
    rw [q]
    exact r
  · rw [if_neg hw]
    have qw : (f == n) = false := by simpa using hw
    have q2 : List.lookup f [(n, v)] = none := by simp [List.lookup, qw]
    rw [q2]
    trivial
section
variable {X : Cx} {C : Cs} {W : WX} {pos : Pos} {Ca fI : Addr} {n x : Str} {k : Nat}
/-- x(e) -/
def tMk1 (Ca : Addr) (n : Str) (ta : TA) : L2.St → Hp → XK → Prop := fun σ H Q => ta σ H fun vs H1 => ∃ v, vs = [v] ∧ ∀ d, H1 d = none → Q (.ref Ca) (some d) (upd H1 d (.xd [(n, v)]))
theorem mb_super {mb : Str → Option Value} (I : ∀ x : Str, x ≠ "__name__" → mb x = bootBuiltins x) : mb ("super" : Str) = some (.type "super") := (I _ (by decide)).trans PyProof.Rows.Boot.«super»
theorem pmk_x1 {a : Expr} {ta : TA} {p : Pos} (T1 : SxE.X1 X.prog X.K Ca fI n) (hr : Room k X.A) (ha : PA X [a] ta) (hg : Gl X x) (hm : X.mg x = some (.ref Ca)) (hdb : (x == ("__debug__" : Str)) = false := by decide)
    (he : starEach (a :: []) X.env = (false, eval a X.env) :: starEach [] X.env := by rfl) (hpl : (backTo pos (starEach [] X.env)).any (·.1) = false := by rfl) :
    PMk X (.Call (.Name x p) [a] [] pos) (tMk1 Ca n ta) := by
  intro pins s σ H Q I h
  obtain ⟨_, _, _, _, _, _, _, _, _, _, _, _, _, _, _, _, T, _, _⟩ := T1.ex
  refine wpAny_Call_Name_kw (ld_glob I hg hm ?_ hdb)
  refine PySem.W.callWith_K (h₀ := X.base) I.ok.mod.kin T.kC (thn (ha.run pos pins s σ H _ I h) fun us s1 hh => ?_) he hpl
  obtain ⟨vs, H1, I1, r1, v, ev, q1⟩ := hh
  subst ev
  refine ⟨I1.kIn, ?_⟩
  cases r1 with
  | cons rv rn =>
    rename_i v' us'
    cases rn
    show wpAny _ _ (call (.ref Ca) [v']) _ _ _
    have hlim := I1.nolimit
    obtain ⟨mb, hb1, hb2⟩ := I1.mod.blt
    have hG := I1.mod.glob.keeps I1.bk
    have hB := hb1.keeps I1.bk
    obtain ⟨hp, g, dr, tk, os⟩ := s1
    refine wpAny_call (SxE.x_made1 T1 I1.kIn hlim (by have := hr.dp; omega) hG hB (mb_super hb2) fun h' tk' e d M => ?_)
    show MkP X pins σ Q (.ref e) ⟨h', g, dr, tk', os⟩
    obtain ⟨oe, fv, hoe, hc, hd, hdat, h1⟩ := M.obj
    have hns := M.ns
    obtain ⟨G', g1, g2⟩ := restrict h' fun b => decide (b ≠ e)
    have gk : ∀ b, b ≠ e → G'.get? b = h'.get? b := fun b hb => g1 b (decide_eq_true hb)
    have ge : G'.get? e = none := g2 e (by simp)
    have old : ∀ b o, hp.get? b = some o → G'.get? b = some o := fun b o q => (gk b (Nat.ne_of_lt (Nat.lt_of_lt_of_le (Heap.lt_size q) M.new))).trans (M.keep b o q)
    have ob : ObjOk X.prog X.w (upd H1 d (.xd [(n, v)])) G' d (.xd [(n, v)]) :=
      ⟨_, hns.at (fun o q => (gk d M.dne).trans q), fun f => relO_one rv n f⟩
    have J : Inv X pins σ (upd H1 d (.xd [(n, v)])) ⟨G', g, dr, tk', os⟩ := I1.laid (t' := tk') old M.dbig ob
    refine ⟨e, oe, fv, ⟨G', g, dr, tk', os⟩, _, .ref Ca, some d, rfl, J, fun b o q => ?_, ge, hoe, ⟨hc, hd⟩, hdat, h1, ?_, rfl, I1.bare, raises_own T.exC T.tyC, q1 d (I1.hok.fresh M.dbig)⟩
    · by_cases hb : b = e
      · have q' : G'.get? b = some o := q
        rw [hb, ge] at q'; cases q'
      · exact (gk b hb).symm.trans q
    · rw [upd_ne (Ne.symm M.dne)]
      exact I1.hok.fresh M.new
/-- x() -/
theorem pmk_x0 {p : Pos} (T1 : SxE.X0 X.prog X.K Ca fI) (hr : Room k X.A) (hg : Gl X x) (hm : X.mg x = some (.ref Ca)) (hdb : (x == ("__debug__" : Str)) = false := by decide) :
    PMk X (.Call (.Name x p) [] [] pos) (fun _ H Q => Q (.ref Ca) none H) := by
  intro pins s σ H Q I h
  obtain ⟨_, _, _, _, _, _, _, _, _, _, T, _, _⟩ := T1.ex
  refine wpAny_Call_Name_kw (ld_glob I hg hm ?_ hdb)
  refine PySem.W.callWith_K0 I.kIn T.kC ?_
  show wpAny _ _ (call (.ref Ca) []) _ _ _
  have hlim := I.nolimit
  obtain ⟨mb, hb1, hb2⟩ := I.mod.blt
  have hG := I.mod.glob.keeps I.bk
  have hB := hb1.keeps I.bk
  obtain ⟨hp, g, dr, tk, os⟩ := s
  refine wpAny_call (SxE.x_made0 T1 I.kIn hlim (by have := hr.dp; omega) hG hB (mb_super hb2) fun h' tk' e M => ?_)
  show MkP X pins σ Q (.ref e) ⟨h', g, dr, tk', os⟩
  obtain ⟨oe, fv, hoe, hc, hd, hdat, h1⟩ := M.obj
  obtain ⟨G', g1, g2⟩ := restrict h' fun b => decide (b ≠ e)
  have gk : ∀ b, b ≠ e → G'.get? b = h'.get? b := fun b hb => g1 b (decide_eq_true hb)
  have ge : G'.get? e = none := g2 e (by simp)
  have old : ∀ b o, hp.get? b = some o → G'.get? b = some o := fun b o q => (gk b (Nat.ne_of_lt (Nat.lt_of_lt_of_le (Heap.lt_size q) M.new))).trans (M.keep b o q)
  have J : Inv X pins σ H ⟨G', g, dr, tk', os⟩ := I.kept old
  refine ⟨e, oe, fv, ⟨G', g, dr, tk', os⟩, _, .ref Ca, none, rfl, J, fun b o q => ?_, ge, hoe, ⟨hc, hd⟩, hdat, h1, I.hok.fresh M.new, rfl, I.bare, raises_own T.exC T.tyC, h⟩
  by_cases hb : b = e
  · have q' : G'.get? b = some o := q
    rw [hb, ge] at q'; cases q'
  · exact (gk b hb).symm.trans q
theorem repx_one {F : Hp} {v : V} {d : D} (r : Rep C F v d) : RepX C F [(n, v)] [(n, d)] := .cons r .nil
def xOne (c : Nat) (n : Str) : List D → Ex := fun ds => ⟨c, ds.map fun d => (n, d)⟩
theorem ss_raise1 {a : Expr} {f : E} {p pos2 : Pos} {c : Nat} (T1 : SxE.X1 X.prog X.K Ca fI n) (hr : Room k X.A) (hcm : X.calm = true) (tk : Takes X W) (hcls : C.cls c = some Ca) (ha : SE X C W a f) (hg : Gl X x) (hm : X.mg x = some (.ref Ca)) (hdb : (x == ("__debug__" : Str)) = false := by decide)
    (he : starEach (a :: []) X.env = (false, eval a X.env) :: starEach [] X.env := by rfl) (hpl : (backTo pos (starEach [] X.env)).any (·.1) = false := by rfl) :
    SS X C W (.Raise (some (.Call (.Name x p) [a] [] pos)) none pos2) (sRaise (xOne c n) [f]) := by
  refine ps_imp (ps_raise hcm tk (pmk_x1 T1 hr (sa_cons ha sa_nil he) hg hm hdb he hpl)) ?_
  rintro D σ H ⟨F0, H0, F, ρ, g, rel, h⟩
  unfold sRaise at h
  refine ⟨F0, H0, F, ρ, g, rel, ?_⟩
  cases q : eArgs [f] ρ g with
  | no => rw [q] at h; exact h.elim
  | er x g1 => rw [q] at h; exact fun cls d F' H' a e => h cls d σ F' H' a.stp.ff (rel.step a) e
  | ok ds g1 =>
    rw [q] at h
    intro vs F1 H1 a1 r1
    have hl := len_args q
    cases r1 with
    | nil => simp at hl
    | @cons v0 _ d0 _ rv rn =>
      cases rn with
      | cons _ _ => simp at hl
      | nil =>
        refine ⟨_, rfl, fun d hd => ?_⟩
        have qt : Quiet C F1 H1 (upd F1 d (.xd [(n, v0)])) (upd H1 d (.xd [(n, v0)])) := .newSh a1.stp.le hd
        refine h (.ref Ca) (some d) σ _ _ (a1.stp.ff.trans qt.stp.ff) (rel.step (a1.quiet qt)) ⟨Ca, hcls, rfl, .inr ⟨d, _, rfl, upd_same, repx_one (rv.le qt.stp.ff)⟩⟩
theorem ss_raise0 {p pos2 : Pos} {c : Nat} (T1 : SxE.X0 X.prog X.K Ca fI) (hr : Room k X.A) (hcm : X.calm = true) (tk : Takes X W) (hcls : C.cls c = some Ca) (hg : Gl X x) (hm : X.mg x = some (.ref Ca)) (hdb : (x == ("__debug__" : Str)) = false := by decide) :
    SS X C W (.Raise (some (.Call (.Name x p) [] [] pos)) none pos2) (sRaise (fun _ => ⟨c, []⟩) []) := by
  refine ps_imp (ps_raise hcm tk (pmk_x0 T1 hr hg hm hdb)) ?_
  rintro D σ H ⟨F0, H0, F, ρ, g, rel, h⟩
  exact h (.ref Ca) none σ F H (.refl F) rel ⟨Ca, hcls, rfl, .inl ⟨rfl, rfl⟩⟩
end
end Sx

set_option Elab.async false
set_option linter.all false
set_option maxRecDepth 100000
set_option maxHeartbeats 4000000
/-! Sx11: from one context of data to another; try with several clauses; the fields of what is caught. -/
namespace L2
open PySem PySem.Spec PyProof.Rows
/-! ### several except clauses, with names or without -/
abbrev Wish := Ends → Addr → Value → Option Addr → St → Hp → Prop
def wMix (K : PySem.W.Frag) (Wout : WX) (D : Ends) : List (Value × Wish) → WX
  | [] => Wout
  | (c, u) :: r => fun cls d σ H => ∃ b, PySem.W.exmOne K cls c = some b ∧ (b = true → ∀ a, H a = none → u D a cls d σ H) ∧ (b = false → wMix K Wout D r cls d σ H)
def uPlain (ts : Addr → Value → Option Addr → TS) : Wish := fun D a cls d σ H => ts a cls d D σ H
def uAs (i : Nat) (ts : Addr → Value → Option Addr → TS) : Wish := fun D a cls d σ H => ts a cls d { nx := fun σ' H' => D.nx (σ'.set i none) H', rt := D.rt, bk := fun σ' H' => D.bk (σ'.set i none) H', ct := fun σ' H' => D.ct (σ'.set i none) H' } (σ.set i (some (.ref a))) H
inductive HdsX (X : Cx) : List ExceptHandler → List (Value × Wish) → Prop
  | nil : HdsX X [] []
  | plain {x : Str} {c : Value} {ts : Addr → Value → Option Addr → TS} {b₀ : Stmt} {suite : List Stmt} {np pos' : Pos} {hds : List ExceptHandler} {l : List (Value × Wish)} (hc : Names X x c)
      (hsu : ∀ (a : Addr) (oe : Obj) (cls : Value) (d : Option Addr) (pn : List (Addr × Obj)), Zc cls d oe → (∃ vs, oe.data = .fields vs) → PSs (X.suite a ((a, oe) :: pn)) (b₀ :: suite) (ts a cls d)) (r : HdsX X hds l) :
      HdsX X (.ExceptHandler (some (.Name x np)) none (b₀ :: suite) pos' :: hds) ((c, uPlain ts) :: l)
  | named {x n : Str} {i : Nat} {c : Value} {ts : Addr → Value → Option Addr → TS} {b₀ : Stmt} {suite : List Stmt} {np pos' : Pos} {hds : List ExceptHandler} {l : List (Value × Wish)} (hi : X.N[i]? = some n) (hln : X.env.kindOf n = some .local) (hc : Names X x c)
      (hsu : ∀ (a : Addr) (oe : Obj) (cls : Value) (d : Option Addr) (pn : List (Addr × Obj)), Zc cls d oe → (∃ vs, oe.data = .fields vs) → PSs (X.suite a ((a, oe) :: pn)) (b₀ :: suite) (ts a cls d)) (r : HdsX X hds l) :
      HdsX X (.ExceptHandler (some (.Name x np)) (some n) (b₀ :: suite) pos' :: hds) ((c, uAs i ts) :: l)
section
variable {X : Cx} {body : List Stmt} {h₀ : ExceptHandler} {hds : List ExceptHandler} {l : List (Value × Wish)} {pos : Pos} {tb : WX → TS} {Wout : WX}
theorem ps_try_mix (hs : X.stack = X.env :: X.outer) (hf : X.env.frame = some X.env.locals) (hN : X.N.Nodup) (tk : Takes X Wout)
    (hb : ∀ (W : WX) (pn : List (Addr × Obj)) (xe : Value → Shared → Prop), Takes (X.tr pn xe) W → PassesOwn (model X.prog X.w) X.A X.env xe → PSs (X.tr pn xe) body (tb W))
    (hh : HdsX X (h₀ :: hds) l) : PS X (.Try body (h₀ :: hds) [] [] pos) (fun D σ H => tb (wMix X.K Wout D l) D σ H) := by
  refine ⟨fun pins s σ H D I h => ?_⟩
  have ok := I.ok
  have hfr : X.A.frames = some (X.env :: X.outer) := by rw [ok.frames, hs]
  refine wpAny_Try_except ?_
  refine wpAny_mono ((hb (wMix X.K Wout D l) (X.pn ++ pins) (fun e s₁ => wpAny (model X.prog X.w) X.A (noteFrame e X.env) (fun _ s₂ => wpAny (model X.prog X.w) X.A (setFlight e none) (fun _ s₃ =>
    wpAny (model X.prog X.w) X.A (handleBy e X.env (h₀ :: hds)) (SP X pins D) X.xe s₃) X.xe s₂) X.xe s₁) (fun u s' xx => ?_) PassesOwn.looking).run [] s σ H D (I.toTry _) h) (fun f s1 hsp => ?_) (fun e s1 he => he)
  · -- the catch
    obtain ⟨a, B, sI, pins', σ', H', cls, d, rfl, J', nb, up, sky, na, os, ag, w⟩ := xx
    have J : Inv X pins σ' H' sI := J'.ofTry ok
    have sky' : Sky B (X.env :: X.outer) a (Zc cls d) X.env.locals s'.heap := by rw [← hs]; exact sky
    show wpAny (model X.prog X.w) X.A (noteFrame (.ref a) X.env) _ _ _
    refine Sky.land Zc.steady hfr hf sky' fun h3 fl3 up3 => ?_
    have J3 : Inv X pins σ' H' { s' with heap := h3 } := J.landed nb fl3.1 (up.trans up3) os ag
    obtain ⟨oe3, vs3, he3, hz3, hd3⟩ := fl3.there
    have notFr : ∀ {h : Heap} {o : Obj} {vs : Array Value}, h.FunFrames B (X.env :: X.outer) → h.get? a = some o → o.data = .fields vs → a ∉ frs (X.env :: X.outer) := fun {h o vs} ff e dd hm => by
      obtain ⟨_, o', e', hnf⟩ := ff.mem hm
      rw [e] at e'; cases e'
      exact hnf _ dd
    have nfr := notFr fl3.2.2.1 he3 hd3
    have nL : a ≠ X.env.locals := fun z => nfr (List.mem_filterMap.mpr ⟨X.env, List.mem_cons_self, by rw [hf, z]⟩)
    have nF : a ∉ X.fs := fun hm => by
      obtain ⟨e, he, q⟩ := List.mem_filterMap.mp hm
      exact nfr (List.mem_filterMap.mpr ⟨e, List.mem_cons_of_mem _ he, q⟩)
    have S3 := J3.suite he3 hd3 na nL nF
    have LT : PySem.W.Looks (model X.prog X.w) h3 (typeOf (.ref a)) cls := fun A Q E s k q => wpAny_typeOf_ref (k _ _ he3) (by rw [hz3.1]; exact q)
    have test : ∀ {x : Str} {c : Value} {np : Pos} {Q : Value → Shared → Prop} {E : Value → Shared → Prop}, Names X x c → Q c { s' with heap := h3 } → wpAny (model X.prog X.w) (X.A.mark (some (.ref a))) (eval (.Name x np) X.env) Q E { s' with heap := h3 } := fun {x c np Q E} hc q => by
      obtain ⟨hg, hdbg, hm | ⟨hm, hv, hnn⟩⟩ := hc
      · exact ld_glob (X := X.suite a ((a, oe3) :: (X.pn ++ pins))) S3 hg hm q hdbg
      · exact ld_blt (X := X.suite a ((a, oe3) :: (X.pn ++ pins))) S3 hg hm hv q hnn hdbg
    have go : ∀ {hds' : List ExceptHandler} {l' : List (Value × Wish)}, HdsX X hds' l' → wMix X.K Wout D l' cls d σ' H' →
        wpAny (model X.prog X.w) X.A (handleBy (.ref a) X.env hds') (SP X pins D) X.xe { s' with heap := h3 } := by
      intro hds' l' hk
      induction hk with
      | nil =>
        intro w
        refine wpAny_handleBy_nil ?_
        obtain ⟨k1, k2, k3, oe, vs, T, oT, ts', he, hz, hd, h1, hr⟩ := id fl3
        unfold PySem.passOn
        refine wpAny_bind (wpAny_field he hd h1 ?_)
        rw [if_neg (show ¬ ((Value.ref T == Value.none) = true) from by simp)]
        have fin : wpAny (model X.prog X.w) X.A (setFlight (.ref a) X.env.frame) (fun _ s4 => wpAny (model X.prog X.w) X.A (throw (.ref a) : Sem Flow) (SP X pins D) X.xe s4) X.xe { s' with heap := h3 } := by
          rw [hf]
          refine HandSPX.setFlight_upZ fl3 fun h4 hh4 up4 => wpAny_throw (tk _ _ ?_)
          exact ⟨a, B, sI, pins, σ', H', cls, d, rfl, J, nb, (up.trans up3).trans up4, .inr (.inr (by rw [hs]; exact hh4)), na, os, ag, w⟩
        first
          | exact wpAny_bind (wpAny_pure (wpAny_bind fin))
          | exact wpAny_bind fin
      | @plain x c ts b₀ suite np pos' hds2 l2 hc hsu r ih =>
        intro w
        obtain ⟨b, hb1, hyes, hno⟩ := w
        refine wpAny_handleBy_cons (codeAny_handlers_test ?_) (by intro q; cases q)
        have LM := PySem.W.exm_one (M := model X.prog X.w) (J3.kIn) LT hb1
        refine test hc (LM.here ?_)
        cases b with
        | true =>
          refine codeAny_handlers_suite ?_
          refine HandSPX.lands_againZ fl3 fun h4 fl4 up4 => ?_
          have J4 : Inv X pins σ' H' { s' with heap := h4 } := J.landed nb fl4.1 ((up.trans up3).trans up4) os ag
          obtain ⟨oe4, vs4, he4, hz4, hd4⟩ := fl4.there
          have S4 := J4.suite he4 hd4 na nL nF
          refine wpAny_mono ((hsu a oe4 cls d (X.pn ++ pins) hz4 ⟨_, hd4⟩).run [] _ _ H' _ S4 (hyes rfl a na)) (fun f s6 hsp => ?_) (fun _ _ z => False.elim z)
          cases f with
          | next =>
            obtain ⟨σ6, H6, S6, q6⟩ := hsp
            exact ⟨_, _, S6.unsuite ok, q6⟩
          | brk =>
            obtain ⟨σ6, H6, S6, q6⟩ := hsp
            exact ⟨_, _, S6.unsuite ok, q6⟩
          | cont =>
            obtain ⟨σ6, H6, S6, q6⟩ := hsp
            exact ⟨_, _, S6.unsuite ok, q6⟩
          | ret u =>
            obtain ⟨v6, σ6, H6, S6, r6, q6⟩ := hsp
            exact ⟨_, _, _, S6.unsuite ok, r6, q6⟩
        | false =>
          show wpAny _ X.A (handleBy (.ref a) X.env hds2) _ _ _
          exact ih (hno rfl)
      | @named x n i c ts b₀ suite np pos' hds2 l2 hi hln hc hsu r ih =>
        intro w
        have hloc : Loc X.env.scope n := .inl hln
        obtain ⟨b, hb1, hyes, hno⟩ := w
        refine wpAny_handleBy_cons (codeAny_handlers_test ?_) (by intro q; cases q)
        have LM := PySem.W.exm_one (M := model X.prog X.w) (J3.kIn) LT hb1
        refine test hc (LM.here ?_)
        cases b with
        | true =>
          refine codeAny_handlers_suite_as ?_
          refine HandSPX.lands_againZ fl3 fun h4 fl4 up4 => ?_
          have J4 : Inv X pins σ' H' { s' with heap := h4 } := J.landed nb fl4.1 ((up.trans up3).trans up4) os ag
          obtain ⟨oe4, vs4, he4, hz4, hd4⟩ := fl4.there
          have S4 := J4.suite he4 hd4 na nL nF
          refine store_ok (X := X.suite a ((a, oe4) :: (X.pn ++ pins))) (v := .ref a) S4 hN hi hloc rfl (fun s5 S5 => ?_) (.inr hln)
          refine wpAny_mono ((hsu a oe4 cls d (X.pn ++ pins) hz4 ⟨_, hd4⟩).run [] s5 _ H' _ S5 (hyes rfl a na)) (fun f s6 hsp => ?_) (fun _ _ z => False.elim z)
          have end_ : ∀ {σ6 : St} {H6 : Hp} {Q : Shared → Prop}, Inv (X.suite a ((a, oe4) :: (X.pn ++ pins))) [] σ6 H6 s6 → (∀ s7, Inv X pins (σ6.set i none) H6 s7 → Q s7) →
              wpAny (model X.prog X.w) X.A (do bindName X.env n .none; unbindBehindTheSuite X.env n pos') (fun _ s7 => Q s7) X.xe s6 := fun {σ6 H6 Q} S6 hq => gone_ok (S6.unsuite ok) hN hi hln hq
          cases f with
          | next =>
            obtain ⟨σ6, H6, S6, q6⟩ := hsp
            exact end_ S6 fun s7 J7 => ⟨_, _, J7, q6⟩
          | brk =>
            obtain ⟨σ6, H6, S6, q6⟩ := hsp
            exact end_ S6 fun s7 J7 => ⟨_, _, J7, q6⟩
          | cont =>
            obtain ⟨σ6, H6, S6, q6⟩ := hsp
            exact end_ S6 fun s7 J7 => ⟨_, _, J7, q6⟩
          | ret u =>
            obtain ⟨v6, σ6, H6, S6, r6, q6⟩ := hsp
            exact end_ S6 fun s7 J7 => ⟨_, _, _, J7, r6, q6⟩
        | false =>
          show wpAny _ X.A (handleBy (.ref a) X.env hds2) _ _ _
          exact ih (hno rfl)
    exact go hh w
  · cases f with
    | next =>
      obtain ⟨σ', H', J', q⟩ := hsp
      exact wpAny_execs_nil ⟨σ', H', J'.ofTry ok, q⟩
    | brk =>
      obtain ⟨σ', H', J', q⟩ := hsp
      exact ⟨σ', H', J'.ofTry ok, q⟩
    | cont =>
      obtain ⟨σ', H', J', q⟩ := hsp
      exact ⟨σ', H', J'.ofTry ok, q⟩
    | ret u =>
      obtain ⟨v, σ', H', J', r, q⟩ := hsp
      exact ⟨v, σ', H', J'.ofTry ok, r, q⟩
end
end L2
namespace Sx
open PySem PySem.Spec PyProof.Rows L2
/-! ### a context that knows more -/
structure CUp (C C' : Cs) : Prop where
  fns : ∀ n a, C.fns n = some a → C'.fns n = some a
  st : C'.st = C.st
  exa : ∀ t, C.exa = some t → C'.exa = some t
mutual
theorem Rep.up {C C' : Cs} {F : Hp} (u : CUp C C') : ∀ {v : V} {d : D}, Rep C F v d → Rep C' F v d
  | _, _, .non => .non
  | _, _, .bl b => .bl b
  | _, _, .int b => .int b
  | _, _, .str b => .str b
  | _, _, .tup h z r => .tup h z (Reps.up u r)
  | _, _, .lst h z r => .lst h z (Reps.up u r)
  | _, _, .dk h r => .dk h (RepK.up u r)
  | _, _, .dt h r => .dt h (RepT.up u r)
  | _, _, .fn h => .fn (u.fns _ _ h)
  | _, _, .st h => .st (by rw [u.st]; exact h)
  | _, _, .exc h h2 r => .exc (u.exa _ h) h2 (RepX.up u r)
  | _, _, .exc0 h => .exc0 (u.exa _ h)
theorem Reps.up {C C' : Cs} {F : Hp} (u : CUp C C') : ∀ {v : List V} {d : List D}, Reps C F v d → Reps C' F v d
  | _, _, .nil => .nil
  | _, _, .cons h r => .cons (Rep.up u h) (Reps.up u r)
theorem RepK.up {C C' : Cs} {F : Hp} (u : CUp C C') : ∀ {v : List (Key × V)} {d : List (Int × D)}, RepK C F v d → RepK C' F v d
  | _, _, .nil => .nil
  | _, _, .cons h r => .cons (Rep.up u h) (RepK.up u r)
theorem RepT.up {C C' : Cs} {F : Hp} (u : CUp C C') : ∀ {v : List (List Key × V)} {d : List (List Int × D)}, RepT C F v d → RepT C' F v d
  | _, _, .nil => .nil
  | _, _, .cons h r => .cons (Rep.up u h) (RepT.up u r)
theorem RepX.up {C C' : Cs} {F : Hp} (u : CUp C C') : ∀ {v : List (Str × V)} {d : List (Str × D)}, RepX C F v d → RepX C' F v d
  | _, _, .nil => .nil
  | _, _, .cons h r => .cons (Rep.up u h) (RepX.up u r)
end
/-- plain data asks no context -/
theorem reps_plain {C C' : Cs} {F : Hp} {n : Nat} (ih : ∀ (d : D) (v : V), plainAt n d = true → Rep C' F v d → Rep C F v d) : ∀ {v : List V} {d : List D}, d.all (plainAt n) = true → Reps C' F v d → Reps C F v d
  | _, _, _, .nil => .nil
  | _, _, p, .cons h r => by
    rw [List.all_cons, Bool.and_eq_true] at p
    exact .cons (ih _ _ p.1 h) (reps_plain ih p.2 r)
theorem rep_plain {C C' : Cs} {F : Hp} : ∀ (n : Nat) (d : D) (v : V), plainAt n d = true → Rep C' F v d → Rep C F v d
  | n, .non, _, _, .non => .non
  | n, .bl _, _, _, .bl b => .bl b
  | n, .int _, _, _, .int b => .int b
  | n, .str _, _, _, .str b => .str b
  | 0, .tup _, _, p, _ => by simp [plainAt] at p
  | 0, .lst _, _, p, _ => by simp [plainAt] at p
  | n + 1, .tup _, _, p, .tup h z r => .tup h z (reps_plain (rep_plain n) (by simpa only [plainAt] using p) r)
  | n + 1, .lst _, _, p, .lst h z r => .lst h z (reps_plain (rep_plain n) (by simpa only [plainAt] using p) r)
  | n, .dk _, _, p, _ => by cases n <;> simp [plainAt] at p
  | n, .dt _, _, p, _ => by cases n <;> simp [plainAt] at p
  | n, .fn _, _, p, _ => by cases n <;> simp [plainAt] at p
  | n, .exc _ _, _, p, _ => by cases n <;> simp [plainAt] at p
  | n, .st, _, p, _ => by cases n <;> simp [plainAt] at p
theorem repK_plain {C C' : Cs} {F : Hp} : ∀ {v : List (Key × V)} {d : List (Int × D)}, (d.all fun p => plainAt DEEP p.2) = true → RepK C' F v d → RepK C F v d
  | _, _, _, .nil => .nil
  | _, _, p, .cons h r => by
    rw [List.all_cons, Bool.and_eq_true] at p
    exact .cons (rep_plain _ _ _ p.1 h) (repK_plain p.2 r)
theorem repT_plain {C C' : Cs} {F : Hp} : ∀ {v : List (List Key × V)} {d : List (List Int × D)}, (d.all fun p => plainAt DEEP p.2) = true → RepT C' F v d → RepT C F v d
  | _, _, _, .nil => .nil
  | _, _, p, .cons h r => by
    rw [List.all_cons, Bool.and_eq_true] at p
    exact .cons (rep_plain _ _ _ p.1 h) (repT_plain p.2 r)
theorem rep_pure {C C' : Cs} {F : Hp} {d : D} {v : V} (e : C'.st = C.st) (p : pureD d = true) (r : Rep C' F v d) : Rep C F v d := by
  cases d with
  | st => cases r with | st h => exact .st (by rw [← e]; exact h)
  | dk kvs => cases r with | dk h r => exact .dk h (repK_plain (by simpa only [pureD] using p) r)
  | dt kvs => cases r with | dt h r => exact .dt h (repT_plain (by simpa only [pureD] using p) r)
  | non => exact rep_plain _ _ _ p r
  | bl _ => exact rep_plain _ _ _ p r
  | int _ => exact rep_plain _ _ _ p r
  | str _ => exact rep_plain _ _ _ p r
  | tup _ => exact rep_plain _ _ _ p r
  | lst _ => exact rep_plain _ _ _ p r
  | fn _ => exact rep_plain _ _ _ p r
  | exc _ _ => exact rep_plain _ _ _ p r
section
variable {C C' : Cs}
theorem inst_conv (e : C'.st = C.st) {a : Addr} : InSt C' a ↔ InSt C a := by unfold InSt; rw [e]
theorem Stp.conv (e : C'.st = C.st) {F H F' H' : Hp} (s : Stp C F H F' H') : Stp C' F H F' H' := ⟨s.ff, s.le, fun a o h n t => s.keep a o h (fun z => n ((inst_conv e).mpr z)) t, s.there, s.priv⟩
theorem StOk.conv (e : C'.st = C.st) {F H : Hp} {g : G} (s : StOk C F g H) : StOk C' F g H := by unfold StOk at *; rw [e]; exact s
theorem Top.up (u : CUp C C') {F H : Hp} {a : Addr} {d : D} (t : Top C F H a d) : Top C' F H a d := by
  cases t with
  | lst h z r => exact .lst h z (r.up u)
  | dk h r => exact .dk h (r.up u)
  | dt h r => exact .dt h (r.up u)
theorem Top.pure (e : C'.st = C.st) {F H : Hp} {a : Addr} {d : D} (p : pureD d = true) (t : Top C' F H a d) : Top C F H a d := by
  cases t with
  | lst h z r =>
    refine .lst h z ?_
    have p : plainAt (23 + 1) (.lst _) = true := p
    exact reps_plain (rep_plain 23) (by simpa only [plainAt] using p) r
  | dk h r => exact .dk h (repK_plain (by simpa only [pureD] using p) r)
  | dt h r => exact .dt h (repT_plain (by simpa only [pureD] using p) r)
theorem Own.up (u : CUp C C') {F H : Hp} {v : V} {a : Addr} {d : D} (o : Own C F H v a d) : Own C' F H v a d := ⟨o.v, o.fr, fun z => o.ns ((inst_conv u.st).mp z), o.top.up u⟩
theorem Own.pure (e : C'.st = C.st) {F H : Hp} {v : V} {a : Addr} {d : D} (p : pureD d = true) (o : Own C' F H v a d) : Own C F H v a d := ⟨o.v, o.fr, fun z => o.ns ((inst_conv e).mpr z), o.top.pure e p⟩
theorem RB.up (u : CUp C C') {H F' H' : Hp} {v : V} {b : B} (r : RB C H F' H' v b) : RB C' H F' H' v b := by
  unfold RB at *
  cases q : b.t with
  | sh => rw [q] at r; exact Rep.up u r
  | ow => rw [q] at r; obtain ⟨p, hp, o⟩ := r; exact ⟨p, hp, o.up u⟩
  | bw => rw [q] at r; obtain ⟨p, o⟩ := r; exact ⟨p, o.up u⟩
theorem RB.pure (e : C'.st = C.st) {H F' H' : Hp} {v : V} {b : B} (p : pureD b.d = true) (r : RB C' H F' H' v b) : RB C H F' H' v b := by
  unfold RB at *
  cases q : b.t with
  | sh => rw [q] at r; exact rep_pure e p r
  | ow => rw [q] at r; obtain ⟨a, ha, o⟩ := r; exact ⟨a, ha, o.pure e p⟩
  | bw => rw [q] at r; obtain ⟨a, o⟩ := r; exact ⟨a, o.pure e p⟩
theorem RS.up (u : CUp C C') {H0 F H : Hp} {v : V} {b : B} (r : RS C H0 F H v b) : RS C' H0 F H v b := by
  unfold RS at *
  cases q : b.t with
  | sh => rw [q] at r; exact Rep.up u r
  | ow => rw [q] at r; obtain ⟨p, hp, o⟩ := r; exact ⟨p, hp, o.up u⟩
  | bw => rw [q] at r; exact r
theorem RS.pure (e : C'.st = C.st) {H0 F H : Hp} {v : V} {b : B} (p : pureD b.d = true) (r : RS C' H0 F H v b) : RS C H0 F H v b := by
  unfold RS at *
  cases q : b.t with
  | sh => rw [q] at r; exact rep_pure e p r
  | ow => rw [q] at r; obtain ⟨a, ha, o⟩ := r; exact ⟨a, ha, o.pure e p⟩
  | bw => rw [q] at r; exact r
theorem After.conv (e : C'.st = C.st) {F H F' H' : Hp} {g : G} (a : After C F H g F' H') (t : TabsC C' F' H') : After C' F H g F' H' := ⟨a.stp.conv e, a.st.conv e, t⟩
theorem Rel.up (u : CUp C C') {F0 H0 F H : Hp} {ρ : Ro} {g : G} {σ : L2.St} (r : Rel C F0 H0 F ρ g σ H) (t : TabsC C' F H) (hn : C'.ent = C.ent) : Rel C' F0 H0 F ρ g σ H :=
  ⟨r.stp.conv u.st, r.st.conv u.st, t, r.len, fun i b h => let ⟨v, h1, h2⟩ := r.slot i b h; ⟨v, h1, h2.up u⟩, r.dis, by rw [hn]; exact r.ent⟩
theorem RS.pureO (e : C'.st = C.st) (ef : C'.fns = C.fns) {H0 F H : Hp} {v : V} {b : B} (p : pureO (some b) = true) (r : RS C' H0 F H v b) : RS C H0 F H v b := by
  by_cases q : ∃ n, b = ⟨.sh, .fn n⟩
  · obtain ⟨n, rfl⟩ := q
    have r : Rep C' F v (.fn n) := r
    cases r with
    | fn h => exact Rep.fn (by rw [← ef]; exact h)
  · refine r.pure e ?_
    obtain ⟨t, d⟩ := b
    unfold Sx.pureO at p
    split at p
    · rename_i z; cases z
    · rename_i n z; cases z; exact (q ⟨n, rfl⟩).elim
    · rename_i z; cases z; exact p
theorem Rel.pure (e : C'.st = C.st) (ef : C'.fns = C.fns) {F0 H0 F H : Hp} {ρ : Ro} {g : G} {σ : L2.St} (p : ρ.all pureO = true) (r : Rel C' F0 H0 F ρ g σ H) (t : TabsC C F H) (hn : C'.ent = C.ent) : Rel C F0 H0 F ρ g σ H :=
  ⟨r.stp.conv e.symm, r.st.conv e.symm, t, r.len, fun i b h => let ⟨v, h1, h2⟩ := r.slot i b h; ⟨v, h1, h2.pureO e ef (List.all_eq_true.mp p (some b) (List.mem_of_getElem? h))⟩, r.dis, by rw [← hn]; exact r.ent⟩
end
/-! ### the fields of what is caught -/
theorem lookup_x {C : Cs} {F : Hp} {n : Str} {d : D} : ∀ {xs : List (Str × V)} {fs : List (Str × D)}, RepX C F xs fs → fs.lookup n = some d → ∃ v, xs.lookup n = some v ∧ Rep C F v d
  | _, _, .nil, e => by simp at e
  | _, _, .cons (k := k) (v := v) r t, e => by
    by_cases q : (n == k) = true
    · simp only [List.lookup, q] at e ⊢
      cases e
      exact ⟨v, rfl, r⟩
    · simp only [Bool.not_eq_true] at q
      simp only [List.lookup, q] at e ⊢
      exact lookup_x t e
section
variable {X : Cx} {C : Cs} {W : WX} {pos : Pos}
theorem se_field {a Ca : Addr} {j : Nat} {oe : Obj} {d : Option Addr} {pn : List (Addr × Obj)} {e : Expr} {f : E} {n : Str} (hx : C.exa = some (a, d, j)) (T : XfC X.K Ca) (hno : PySem.W.findIn X.K (.ref Ca) n = some none) (hz : Zc (.ref Ca) d oe) (hf : ∃ vs, oe.data = .fields vs)
    (he : SE (X.suite a ((a, oe) :: pn)) C W e f) (hb : attributeBase e n X.env (eval e X.env) = eval e X.env := by rfl) : SE (X.suite a ((a, oe) :: pn)) C W (.Attribute e n pos) (eField n f) := by
  refine pe_imp (pe_xf T hno hz hf he hb) ?_
  rintro σ H Q ⟨F0, H0, F, ρ, g, rel, h⟩
  unfold eField at h
  rw [onOk_bind] at h
  refine ⟨F0, H0, F, ρ, g, rel, onOk_mono h (fun b g1 h1 v F1 H1 a1 r1 => ?_) fun x g1 h1 => h1⟩
  split at h1
  · rename_i c fs eb
    split at h1
    · rename_i d0 el
      have r := r1.ro
      rw [eb] at r
      rcases r with r | ⟨_, o⟩
      · cases r with
        | exc h2 hd rx =>
          rw [hx] at h2
          cases h2
          obtain ⟨v0, l1, l2⟩ := lookup_x rx el
          exact ⟨rfl, rfl, _, _, v0, rfl, a1.stp.le _ _ hd, l1, h1 v0 F1 H1 a1 l2⟩
        | exc0 h2 => simp at el
      · cases o.top
    · exact h1.elim
  · exact h1.elim
/-! ### try -/
theorem Rel.unset {F0 H0 F H : Hp} {ρ : Ro} {g : G} {σ : L2.St} (rel : Rel C F0 H0 F ρ g σ H) (i : Nat) : Rel C F0 H0 F (ρ.set i none) g (σ.set i none) H := by
  have back : ∀ (j : Nat) (b : B), (ρ.set i none)[j]? = some (some b) → i ≠ j ∧ ρ[j]? = some (some b) := fun j b h => by
    by_cases e : i = j
    · subst e
      by_cases hl : i < ρ.length
      · rw [List.getElem?_set_self hl] at h; cases h
      · rw [List.getElem?_eq_none (by rw [List.length_set]; omega)] at h; cases h
    · rw [List.getElem?_set_ne e] at h; exact ⟨e, h⟩
  refine ⟨rel.stp, rel.st, rel.tabs, by rw [List.length_set, List.length_set]; exact rel.len, fun j b h => ?_, fun j k bj bk a hj hk tj tk sj sk => ?_, rel.ent⟩
  · obtain ⟨e, h⟩ := back j b h
    obtain ⟨v, h1, h2⟩ := rel.slot j b h
    exact ⟨v, by rw [List.getElem?_set_ne e]; exact h1, h2⟩
  · obtain ⟨ej, hj⟩ := back j bj hj
    obtain ⟨ek, hk⟩ := back k bk hk
    rw [List.getElem?_set_ne ej] at sj
    rw [List.getElem?_set_ne ek] at sk
    exact rel.dis j k bj bk a hj hk tj tk sj sk
abbrev CsX (C : Cs) (a : Addr) (d : Option Addr) (j : Nat) : Cs := { C with exa := some (a, d, j) }
abbrev noW : WX := fun _ _ _ _ => False
inductive HS (X : Cx) (C : Cs) : List ExceptHandler → List Hd → Prop
  | nil : HS X C [] []
  | plain {x : Str} {c : Value} {cs : List Nat} {b₀ : Stmt} {suite : List Stmt} {np pos' : Pos} {s : S} {hds : List ExceptHandler} {l : List Hd} (hc : Names X x c) (hm : ∀ j Ca, C.cls j = some Ca → PySem.W.exmOne X.K (.ref Ca) c = some (cs.contains j))
      (hsu : ∀ (a : Addr) (oe : Obj) (cls : Value) (d : Option Addr) (pn : List (Addr × Obj)), Zc cls d oe → (∃ vs, oe.data = .fields vs) → SSs (X.suite a ((a, oe) :: pn)) C noW (b₀ :: suite) s) (r : HS X C hds l) :
      HS X C (.ExceptHandler (some (.Name x np)) none (b₀ :: suite) pos' :: hds) (⟨cs, none, s⟩ :: l)
  | named {x n : Str} {i : Nat} {c : Value} {cs : List Nat} {b₀ : Stmt} {suite : List Stmt} {np pos' : Pos} {s : S} {hds : List ExceptHandler} {l : List Hd} (hi : X.N[i]? = some n) (hln : X.env.kindOf n = some .local) (hc : Names X x c)
      (hm : ∀ j Ca, C.cls j = some Ca → PySem.W.exmOne X.K (.ref Ca) c = some (cs.contains j))
      (hsu : ∀ (j : Nat) (Ca a : Addr) (oe : Obj) (d : Option Addr) (pn : List (Addr × Obj)), cs.contains j = true → C.cls j = some Ca → Zc (.ref Ca) d oe → (∃ vs, oe.data = .fields vs) → SSs (X.suite a ((a, oe) :: pn)) (CsX C a d j) noW (b₀ :: suite) s) (r : HS X C hds l) :
      HS X C (.ExceptHandler (some (.Name x np)) (some n) (b₀ :: suite) pos' :: hds) (⟨cs, some i, s⟩ :: l)
theorem up_X (hX : C.exa = none) (a : Addr) (d : Option Addr) (j : Nat) : CUp C (CsX C a d j) := ⟨fun _ _ h => h, rfl, fun t h => by rw [hX] at h; cases h⟩
theorem hs_ok (hX : C.exa = none) {hds : List ExceptHandler} {l : List Hd} (h : HS X C hds l) : ∃ l', HdsX X hds l' ∧ ∀ D F0 H0 F ρ g σ H x cls d, Rel C F0 H0 F ρ g σ H → ExR C F x cls d → PostS C W F0 H0 F D (handle l x ρ g) → wMix X.K W D l' cls d σ H := by
  induction h with
  | nil => exact ⟨[], .nil, fun D F0 H0 F ρ g σ H x cls d rel ex h => h cls d σ F H (.refl F) rel ex⟩
  | @plain x c cs b₀ suite np pos' s hds l hc hm hsu r ih =>
    obtain ⟨l', h1, h2⟩ := ih
    refine ⟨(c, uPlain fun _ _ _ => tS C noW s) :: l', .plain hc hsu h1, fun D F0 H0 F ρ g σ H x cls d rel ex h => ?_⟩
    obtain ⟨Ca, hca, rfl, ex'⟩ := id ex
    refine ⟨cs.contains x.c, hm _ _ hca, fun hb a ha => ?_, fun hb => ?_⟩
    · unfold handle at h
      rw [if_pos hb] at h
      refine ⟨F0, H0, F, ρ, g, rel, ?_⟩
      dsimp only at h
      cases q : s ρ g with
      | er _ _ _ => rw [q] at h; exact h.elim
      | nx _ _ => rw [q] at h; exact h
      | rt _ _ => rw [q] at h; exact h
      | bk _ _ => rw [q] at h; exact h
      | ct _ _ => rw [q] at h; exact h
      | no => rw [q] at h; exact h
    · unfold handle at h
      rw [if_neg (by rw [hb]; simp)] at h
      exact h2 D F0 H0 F ρ g σ H x _ d rel ex h
  | @named x n i c cs b₀ suite np pos' s hds l hi hln hc hm hsu r ih =>
    obtain ⟨l', h1, h2⟩ := ih
    refine ⟨(c, uAs i fun a cls d D σ H => ∃ j Ca, cls = .ref Ca ∧ cs.contains j = true ∧ C.cls j = some Ca ∧ tS (CsX C a d j) noW s D σ H) :: l', .named hi hln hc (fun a oe cls d pn hz hf => ⟨fun pins s' σ H D I q => ?_⟩) h1, fun D F0 H0 F ρ g σ H x cls d rel ex h => ?_⟩
    · obtain ⟨j, Ca, rfl, hj, hca, t⟩ := q
      exact (hsu j Ca a oe d pn hj hca hz hf).run pins s' σ H D I t
    obtain ⟨Ca, hca, rfl, ex'⟩ := id ex
    refine ⟨cs.contains x.c, hm _ _ hca, fun hb a ha => ?_, fun hb => ?_⟩
    · unfold handle at h
      rw [if_pos hb] at h
      refine ⟨x.c, Ca, rfl, hb, hca, ?_⟩
      have u := up_X hX a d x.c
      have relX : Rel (CsX C a d x.c) F0 H0 F ρ g σ H := rel.up u ⟨rel.tabs.1, rel.tabs.2, rel.tabs.3⟩ rfl
      have rx : Rep (CsX C a d x.c) F (.ref a) (.exc x.c x.fs) := by
        rcases ex' with ⟨e, rfl⟩ | ⟨dd, xs, rfl, hd, rr⟩
        · rw [e]; exact .exc0 rfl
        · exact .exc rfl hd (rr.up u)
      have rel2 := relX.set relX.after (v := .ref a) (b := sh (.exc x.c x.fs)) rx (by simp) i
      refine ⟨F0, H0, F, _, g, rel2, ?_⟩
      dsimp only at h
      cases q : s (ρ.set i (some (sh (.exc x.c x.fs)))) g with
      | nx ρ1 g1 =>
        rw [q] at h
        dsimp only at h
        split at h
        · rename_i hp
          intro σ1 F1 H1 l1 r1
          exact h _ F1 H1 l1 (Rel.pure (C := C) (C' := CsX C a d x.c) rfl rfl hp (r1.unset i) ⟨r1.tabs.1, r1.tabs.2, r1.tabs.3⟩ rfl)
        · exact h.elim
      | rt b g1 =>
        rw [q] at h
        dsimp only at h
        split at h
        · rename_i hp
          intro v F1 H1 a1 r1
          exact h v F1 H1 (After.conv (C := CsX C a d x.c) (C' := C) rfl a1 ⟨a1.tabs.1, a1.tabs.2, a1.tabs.3⟩) (RB.pure (C := C) (C' := CsX C a d x.c) rfl hp r1)
        · exact h.elim
      | bk _ _ => rw [q] at h; exact h.elim
      | ct _ _ => rw [q] at h; exact h.elim
      | er _ _ _ => rw [q] at h; exact h.elim
      | no => rw [q] at h; exact h.elim
    · unfold handle at h
      rw [if_neg (by rw [hb]; simp)] at h
      exact h2 D F0 H0 F ρ g σ H x _ d rel ex h
theorem ss_try {body : List Stmt} {h₀ : ExceptHandler} {hds : List ExceptHandler} {l : List Hd} {b : S} (hX : C.exa = none) (hs : X.stack = X.env :: X.outer) (hf : X.env.frame = some X.env.locals) (hN : X.N.Nodup) (tk : Takes X W)
    (hb : ∀ (W : WX) (pn : List (Addr × Obj)) (xe : Value → Shared → Prop), Takes (X.tr pn xe) W → PassesOwn (model X.prog X.w) X.A X.env xe → SSs (X.tr pn xe) C W body b)
    (hh : HS X C (h₀ :: hds) l) : SS X C W (.Try body (h₀ :: hds) [] [] pos) (sTry b l) := by
  obtain ⟨l', k1, k2⟩ := hs_ok (W := W) hX hh
  refine ps_imp (ps_try_mix (tb := fun W => tS C W b) hs hf hN tk hb k1) ?_
  rintro D σ H ⟨F0, H0, F, ρ, g, rel, h⟩
  refine ⟨F0, H0, F, ρ, g, rel, ?_⟩
  unfold sTry at h
  cases q : b ρ g with
  | er x ρ1 g1 =>
    rw [q] at h
    intro cls d σ1 F1 H1 l1 r1 ex
    exact k2 D F0 H0 F1 ρ1 g1 σ1 H1 x cls d r1 ex (h.up l1)
  | nx _ _ => rw [q] at h; exact h
  | rt _ _ => rw [q] at h; exact h
  | bk _ _ => rw [q] at h; exact h
  | ct _ _ => rw [q] at h; exact h
  | no => rw [q] at h; exact h
end
end Sx

set_option Elab.async false
set_option linter.all false
set_option maxRecDepth 100000
set_option maxHeartbeats 4000000
/-! Sx12: a lambda of no parameter, handed to an own def that calls it. -/
namespace Sx
open PySem PySem.Spec PyProof.Rows L2
abbrev Th := G → R B
/-- the callee's data: its only parameter is the function at fa, its code object at c' -/
abbrev CsF (C : Cs) (F H : Hp) (fa c' : Addr) (q : Str) : Cs := { C with fns := fun n => if n = 0 then some fa else C.fns n, codes := (c', q) :: C.codes, ent := some (F, H) }
theorem cup_F {C : Cs} (hF : C.fns 0 = none) (F H : Hp) (fa c' : Addr) (q : Str) : CUp C (CsF C F H fa c' q) := ⟨fun n a h => (by
  show (if n = 0 then some fa else C.fns n) = some a
  by_cases z : n = 0
  · subst z; rw [hF] at h; cases h
  · rw [if_neg z]; exact h), rfl, fun _ h => h⟩
def eTh (th : Th) : E := fun ρ g => match ρ[(0 : Nat)]? with
  | some (some ⟨.sh, .fn 0⟩) => th g
  | _ => .no
def eLam (m : Th → Th) (f : E) : E := fun ρ g => match m (f ρ) g with
  | .ok b g1 => if pureD b.d then .ok b g1 else .no
  | _ => .no
/-- a def whose parameter is called: n slots -/
def fnTh (n : Nat) (body : Th → S) : Th → Th := fun th g => ends (body th (ro0 n [.fn 0]) g)
theorem codeO_tbl {c : Addr} {q : Str} : ∀ ps, LamX.CodeO c q ≠ .tbl ps := fun ps z => LamX.codeO_ne ps z
/-- a code object stays -/
theorem code_stays {C : Cs} {F H F' H' : Hp} {g : G} {c : Addr} {q : Str} (st : StOk C F g H) (s : Stp C F H F' H') (h : H c = some (LamX.CodeO c q)) : H' c = some (LamX.CodeO c q) := by
  refine s.keep c _ h (fun i => ?_) codeO_tbl
  unfold InSt at i
  unfold StOk at st
  cases e : C.st with
  | none => rw [e] at i; exact i
  | some t =>
    obtain ⟨x, y, z⟩ := t
    rw [e] at i st
    cases g with
    | none => exact st
    | some gs =>
      obtain ⟨h1, h2, h3, _⟩ := st
      rcases i with rfl | rfl | rfl
      · rw [h1] at h; cases h
      · rw [h2] at h; cases h
      · rw [h3] at h; cases h
section
variable {X : Cx} {C : Cs} {W : WX} {pins : List (Addr × Obj)} {σ : L2.St} {H : Hp} {s : Shared}
/-- where the lambda's body runs -/
abbrev lamAt (X : Cx) (scope : Scope) (A : Around) (s : Shared) (fa c' : Addr) : Around := A.deeper (LamX.lamEnv X scope s.heap.objs.size fa c')
/-- the callee's context -/
abbrev zCx (X : Cx) (N : List Str) (qual : Str) (sg : Scope) (g : Addr) (cdv : Value) (s : Shared) (H : Hp) : Cx := cxOf (L2.CX X.prog X.w) X.prog X.w X.K X.mg X.base N qual sg g cdv X.A X.stack s H fun _ _ _ => False
theorem pe_thunk {N : List Str} {qual a : Str} {sg scope : Scope} {g fa c' : Addr} {cdv pm ctv : Value} {params : Arguments} {body : Expr} {k : Nat} {pn : List (Addr × Obj)} {xe : Value → Shared → Prop} {p1 p2 : Pos} {T : XK → TE}
    (I : Inv X pins σ H s) (L : LamX.LamS X.env.scope scope) (hf : s.heap.get? fa = some (PySem.W.kla_obj "<lambda>" (X.env.qual ++ "<lambda>") params body scope (cloFrom X.env.cells scope.names []) pm c' ctv)) (hn : H fa = none) (hfr : fa ∉ frs X.stack)
    (hb : bindArgs (PySem.W.kla_fn "<lambda>" (X.env.qual ++ "<lambda>") params body scope (cloFrom X.env.cells scope.names []) pm (.ref c') ctv) ⟨[], []⟩ = pure [])
    (tk : Takes ((zCx X N qual sg g cdv s H).tr pn xe) W) (hr : Room (k + 1) (zCx X N qual sg g cdv s H).A) (hgd : X.A.guards = some [])
    (hbody : ∀ (A : Around) (outer : List Env) (s : Shared) (H : Hp) (E : XK), Room k (lamAt X scope A s fa c') → (lamAt X scope A s fa c').guards = some [] → PE (LamX.lamCx X A outer s H E scope fa c') body (T E))
    (hN : N[0]? = some a) (hv : Vis sg a) (hd : (a == ("__debug__" : Str)) = false) (hcd : (a == ("__classdict__" : Str)) = false) :
    PE ((zCx X N qual sg g cdv s H).tr pn xe) (.Call (.Name a p1) [] [] p2)
      (fun σZ HZ Q => σZ[0]? = some (some (.ref fa)) ∧ HZ c' = some (LamX.CodeO c' (X.env.qual ++ "<lambda>")) ∧ T (fun cls d H' => W cls d σZ H') σ HZ Q) := by
  constructor
  rintro pinsZ sZ σZ HZ Q IZ ⟨at0, atC, ready⟩
  -- the name
  have name := (pe_var (X := (zCx X N qual sg g cdv s H).tr pn xe) (pos := p1) (i := 0) hN hv hd hcd).run pinsZ sZ σZ HZ (fun v H' => v = .ref fa ∧ H' = HZ) IZ ⟨.ref fa, at0, rfl, rfl⟩
  refine wpAny_Call_Name_kw (thn name fun u t1 hu => ?_)
  obtain ⟨w0, H1, J, rel, e1, e2⟩ := hu
  subst e1 e2
  cases rel
  -- the function object stands as it was made
  have still : t1.heap.get? fa = some (PySem.W.kla_obj "<lambda>" (X.env.qual ++ "<lambda>") params body scope (cloFrom X.env.cells scope.names []) pm c' ctv) :=
    J.base.keep fa _ hf hn hfr (List.not_mem_nil)
  refine PySem.W.callWith_F0 ⟨_, _, _, _, still⟩ (wpAny_call ?_)
  obtain ⟨⟨oc, vs, t, g1, g2, g3⟩, -, -⟩ := J.hok c' _ atC
  refine codeAny_mono (R := CR (L2.CX X.prog X.w) (envOfC qual sg s.heap.objs.size g cdv :: X.stack) X.prog X.w H1 t1 Q (fun cls d H' => W cls d σZ H')) ?_ fun r s' got => ?_
  · refine PySem.W.kla_callFunE hr.depth still rfl L.co L.gen rfl ⟨c', oc, vs, t, rfl, g1, g2, g3⟩ ?_
    show wpAny _ _ (bindArgs (PySem.W.kla_fn "<lambda>" (X.env.qual ++ "<lambda>") params body scope (cloFrom X.env.cells scope.names []) pm (.ref c') ctv) ⟨[], []⟩) _ _ _
    rw [hb]
    refine wpAny_pure (wpAny_newFunctionEnv (fun y hy => (L.own y hy).2) (fun y hy => by cases hy) (fun h₁ ns same => ⟨J.nolimit.fresh _ same, ?_⟩) L.kind)
    have up : ∀ b o, t1.heap.get? b = some o → h₁.get? b = some o := fun b o z => same.extBut b o (Nat.ne_of_lt (Heap.lt_size z)) (Heap.get?_push_of_some _ z)
    have inside := LamX.lam_start2 (E := fun cls d H' => W cls d σZ H') (f := fa) (c' := c') (tk := t1.toks + ([] : List (Str × Value)).length) I L J.env0 hr.hd J.base ns up
    refine PySem.W.kla_codeExpr (wpAny_mono ((hbody _ _ t1 H1 _ (hr.deeper _) hgd).run [] _ _ H1 Q inside ready) (fun v s' z => ?_) fun _ _ z => z)
    obtain ⟨x, H2, J2, r2, q2⟩ := z
    exact ⟨x, H2, J2.os, J2.bare, J2.base, J2.hok, r2, q2⟩
  · match r, got with
    | .error e, got => exact passAt tk σZ pinsZ H1 t1 e s' J got
    | .ok (.ret u), got => exact J.after got
end
section
variable {X : Cx} {pins : List (Addr × Obj)} {σ : L2.St} {H : Hp} {s : Shared}
/-- what the making of a lambda leaves: nothing new, or a code object more, told in the table -/
def LamNew (pos : Pos) (H H1 : Hp) (P c' : Addr) (q : Str) : Prop := H1 = H ∨ ∃ ps, H P = some (.tbl ps) ∧ H c' = none ∧ H1 = upd (upd H P (.tbl (ps ++ #[rawInt pos.line, rawInt pos.col, .ref c']))) c' (LamX.CodeO c' q)
theorem lam_mk {q : Str} {c P : Addr} {ps : Array Value} {params : Arguments} {body : Expr} {scope : Scope} {pos : Pos} {E Q : Value → Shared → Prop} (hq : q = X.env.qual ++ "<lambda>") (I : Inv X pins σ H s) (B : LamX.TabB X.base X.mg c P) (code : X.env.code = .ref c)
    (tab : H P = some (.tbl ps)) (tri : TriplesOk ps.toList) (told : ∀ cv, codeAmong pos ps.toList = some cv → ∃ d, cv = .ref d ∧ H d = some (LamX.CodeO d q)) (nodef : defaultsOf params X.env = ([], [])) (free : ∀ y ∈ scope.names, y.2 = .free → ∃ d, X.env.cells.lookup y.1 = some d)
    (k : ∀ (fa c' : Addr) (pm ctv : Value) (H1 : Hp) (s1 : Shared), Inv X pins σ H1 s1 → LamNew pos H H1 P c' q →
      s1.heap.get? fa = some (PySem.W.kla_obj "<lambda>" q params body scope (cloFrom X.env.cells scope.names []) pm c' ctv) → H1 fa = none → fa ∉ frs X.stack → H1 c' = some (LamX.CodeO c' q) → Q (.ref fa) s1) :
    wpAny (model X.prog X.w) X.A (eval (.Lambda params body scope pos) X.env) Q E s := by
  subst hq
  have outside : ∀ fa, s.heap.objs.size ≤ fa → fa ∉ frs X.stack := fun fa big mem =>
    (List.mem_cons.mp (I.stkSub _ mem)).elim (fun e => absurd (Nat.lt_of_lt_of_le (e ▸ I.lt) big) (Nat.lt_irrefl _)) (fun e => I.nofs big e)
  have there := I.hok P _ tab
  apply PySem.W.kla_eval nodef
  rcases found : codeAmong pos ps.toList with _ | cv
  · refine PySem.W.kla_makeFunction (mg := X.mg) (c := c) (P := P) (ps := ps) (L2.closure_ok free) I.ok.glob (I.mod.glob.keeps I.bk) code (B.code.keeps I.bk) there tri found B.gP (B.bm.keeps I.bk) fun c' ctv h1 tk up big less rec tb => ?_
    obtain ⟨c2, oc, vs, t, e, r1, r2, r3⟩ := rec
    cases e
    have grown : s.heap.objs.size ≤ h1.objs.size := Nat.le_trans big (Nat.le_of_lt less)
    have fresh : H c' = none := I.hok.fresh big
    let o := PySem.W.kla_obj "<lambda>" (X.env.qual ++ "<lambda>") params body scope (cloFrom X.env.cells scope.names []) ((X.mg "__name__").getD .none) c' ctv
    have J := LamX.inv_table (t' := tk) (more := #[rawInt pos.line, rawInt pos.col, .ref c']) (h' := h1.push o) (q := X.env.qual ++ "<lambda>") I tab (fun b u n e => Heap.get?_push_of_some _ (up b u n e)) (Heap.get?_push_of_some _ tb) big ⟨oc, vs, t, Heap.get?_push_of_some _ r1, r2, r3⟩
    have n1 : h1.objs.size ≠ c' := Nat.ne_of_gt less
    have n2 : h1.objs.size ≠ P := Nat.ne_of_gt (Nat.lt_of_lt_of_le (Heap.lt_size there) grown)
    have n3 : P ≠ c' := fun z => by rw [z, fresh] at tab; cases tab
    exact k h1.objs.size c' _ ctv _ _ J (.inr ⟨ps, tab, fresh, rfl⟩) (Heap.get?_push_size _ rfl) (by rw [upd_ne n1, upd_ne n2]; exact I.hok.fresh grown) (outside _ grown) upd_same
  · obtain ⟨c', e, isC⟩ := told cv found
    subst e
    refine PySem.W.kla_makeFunctionHit (mg := X.mg) (c := c) (P := P) (ps := ps) (L2.closure_ok free) I.ok.glob (I.mod.glob.keeps I.bk) code (B.code.keeps I.bk) there tri found (B.bm.keeps I.bk) fun ctv h1 tk up grown => ?_
    have J : Inv X pins σ H { s with heap := h1.push (PySem.W.kla_obj "<lambda>" (X.env.qual ++ "<lambda>") params body scope (cloFrom X.env.cells scope.names []) ((X.mg "__name__").getD .none) c' ctv), toks := tk } := I.kept fun b u e => Heap.get?_push_of_some _ (up b u e)
    exact k h1.objs.size c' _ ctv H _ J (.inl rfl) (Heap.get?_push_size _ rfl) (I.hok.fresh grown) (outside _ grown) isC
end
theorem st_lam {C : Cs} {F H : Hp} {g : G} {P c' : Addr} {ps : Array Value} {o1 o2 : HO} (st : StOk C F g H) (tab : H P = some (.tbl ps)) (fresh : H c' = none) : StOk C F g (upd (upd H P o1) c' o2) := by
  unfold StOk at st ⊢
  cases e : C.st with
  | none => trivial
  | some t =>
    obtain ⟨x, y, z⟩ := t
    rw [e] at st
    cases g with
    | none => exact st
    | some gs =>
      obtain ⟨h1, h2, h3, n1, n2, n3, f1, f2, f3⟩ := st
      have key : ∀ a o, H a = some o → (∀ qs, o ≠ .tbl qs) → upd (upd H P o1) c' o2 a = some o := fun a o h n => by
        have m1 : a ≠ c' := fun z => by subst z; rw [fresh] at h; cases h
        have m2 : a ≠ P := fun z => by subst z; rw [tab] at h; exact n ps (Option.some.inj h).symm
        rw [upd_ne m1, upd_ne m2]; exact h
      exact ⟨key _ _ h1 (fun _ z => by cases z), key _ _ h2 (fun _ z => by cases z), key _ _ h3 (fun _ z => by cases z), n1, n2, n3, f1, f2, f3⟩
theorem after_lam {C : Cs} {F0 H0 F H H1 : Hp} {ρ : Ro} {g : G} {σ : L2.St} {P c' : Addr} {q : Str} {pos : Pos} (rel : Rel C F0 H0 F ρ g σ H) (hT : (P, q) ∈ C.T) (uniq : ∀ p ∈ C.T, p.1 = P → p.2 = q) (new : LamNew pos H H1 P c' q) : After C F H g F H1 := by
  rcases new with rfl | ⟨ps, tab, fresh, rfl⟩
  · exact rel.after
  have key : ∀ a o, H a = some o → (∀ qs, o ≠ .tbl qs) → upd (upd H P (.tbl (ps ++ #[rawInt pos.line, rawInt pos.col, .ref c']))) c' (LamX.CodeO c' q) a = some o := fun a o h n => by
    have m1 : a ≠ c' := fun z => by subst z; rw [fresh] at h; cases h
    have m2 : a ≠ P := fun z => by subst z; rw [tab] at h; exact n ps (Option.some.inj h).symm
    rw [upd_ne m1, upd_ne m2]; exact h
  have nPc : P ≠ c' := fun z => by rw [z, fresh] at tab; cases tab
  obtain ⟨ps', tab', tri, am⟩ := rel.tabs.1 _ hT
  rw [tab] at tab'
  cases tab'
  refine ⟨⟨.refl F, fun a o h => key a o (rel.stp.le a o h) (fun qs z => rel.tabs.3 a qs (by rw [h, z])), fun a o h _ n => key a o h n, fun a h => ?_, fun _ _ n => .inl n⟩, st_lam rel.st tab fresh, ⟨fun p hp => ?_, fun p hp => key _ _ (rel.tabs.2 p hp) codeO_tbl, rel.tabs.3⟩⟩
  · by_cases e1 : a = c'
    · subst e1; rw [upd_same]; simp
    · rw [upd_ne e1]
      by_cases e2 : a = P
      · subst e2; rw [upd_same]; simp
      · rw [upd_ne e2]; exact h
  · obtain ⟨qs, t1, t2, t3⟩ := rel.tabs.1 p hp
    by_cases e : p.1 = P
    · rw [uniq p hp e, e]
      have eL : (ps ++ #[rawInt pos.line, rawInt pos.col, .ref c']).toList = ps.toList ++ [rawInt pos.line, rawInt pos.col, .ref c'] := by simp
      refine ⟨_, by rw [upd_ne nPc, upd_same], by rw [eL]; exact PySem.TriplesOk_snoc _ _ _ _ tri, fun p' cv h => ?_⟩
      rw [eL] at h
      rcases LamX.among_app _ tri h with z | z
      · obtain ⟨d, e1, e2⟩ := am p' cv z
        exact ⟨d, e1, key _ _ e2 codeO_tbl⟩
      · exact ⟨c', z, upd_same⟩
    · have m1 : p.1 ≠ c' := fun z => by rw [z, fresh] at t1; cases t1
      refine ⟨qs, by rw [upd_ne m1, upd_ne e]; exact t1, t2, fun p' cv h => ?_⟩
      obtain ⟨d, e1, e2⟩ := t3 p' cv h
      exact ⟨d, e1, key _ _ e2 codeO_tbl⟩
section
variable {X : Cx} {C : Cs} {W : WX} {pos : Pos}
/-- x(lambda: body) -/
theorem se_lam {x a gx qual : Str} {st : Stmt} {g lc lP : Addr} {fd : FuncData} {N : List Str} {k : Nat} {m : Th → S} {params : Arguments} {body : Expr} {scope : Scope} {lpos p : Pos} {f : E} (hF : C.fns 0 = none)
    (Fd : FunD X.K gx qual (defArgs st) (defBody st) (defScope st) [] [] g fd) (Sc : FnScope N [a] (defScope st)) (hN : N[0]? = some a) (hva : Vis (defScope st) a) (hg : Gl X x) (hm : X.mg x = some (.ref g)) (hk : PySem.W.keepIn X.K (.ref g) = true) (hbg : Binds X.K fd [a] [])
    (hgb : ∀ (cdv : Value) (s : Shared) (F H : Hp) (th : Th) (fa c' : Addr) (q : Str), Room (k + 1) (zCx X N qual (defScope st) g cdv s H).A → (zCx X N qual (defScope st) g cdv s H).A.guards = some [] →
      (∀ (W : WX) (pn : List (Addr × Obj)) (xe : Value → Shared → Prop) (p1 p2 : Pos), Takes ((zCx X N qual (defScope st) g cdv s H).tr pn xe) W → SE ((zCx X N qual (defScope st) g cdv s H).tr pn xe) (CsF C F H fa c' q) W (.Call (.Name a p1) [] [] p2) (eTh th)) →
      SSs (zCx X N qual (defScope st) g cdv s H) (CsF C F H fa c' q) noW (defBody st) (m th))
    (TB : LamX.TabB X.base X.mg lc lP) (hcode : X.env.code = .ref lc) (hT : (lP, X.env.qual ++ "<lambda>") ∈ C.T) (hu : ∀ p ∈ C.T, p.1 = lP → p.2 = X.env.qual ++ "<lambda>") (hr : Room (k + 2) X.A) (hgd : X.A.guards = some []) (L : LamX.LamS X.env.scope scope)
    (hdef : defaultsOf params X.env = ([], [])) (hbl : ∀ (q : Str) (cl : List (Str × Addr)) (pm cv ctv : Value), bindArgs (PySem.W.kla_fn "<lambda>" q params body scope cl pm cv ctv) ⟨[], []⟩ = pure [])
    (hbody : ∀ (A : Around) (outer : List Env) (s : Shared) (H : Hp) (E : XK) (fa c' : Addr), Room k (lamAt X scope A s fa c') → (lamAt X scope A s fa c').guards = some [] → SE (LamX.lamCx X A outer s H E scope fa c') C (fun cls d _ H => E cls d H) body f)
    (hdb : (x == ("__debug__" : Str)) = false := by decide) (hd : (a == ("__debug__" : Str)) = false := by decide) (hcd : (a == ("__classdict__" : Str)) = false := by decide) :
    SE X C W (.Call (.Name x p) [.Lambda params body scope lpos] [] pos) (eLam (fnTh N.length m) f) := by
  constructor
  rintro pins s σ H Q I ⟨F0, H0, F, ρ, g0, rel, h⟩
  refine wpAny_Call_Name_kw (ld_glob I hg hm ?_ hdb)
  refine PySem.W.callWith_K (h₀ := X.base) I.ok.mod.kin hk ?_ (by rfl) (by rfl)
  show wpAny _ _ (spliced ((false, eval (.Lambda params body scope lpos) X.env) :: backTo pos (starEach [] X.env))) _ _ s
  obtain ⟨ps, tab, tri, told⟩ := rel.tabs.1 _ hT
  refine Calls.spliced_cons (lam_mk rfl I TB hcode tab tri (told lpos) hdef (L.has I.ok) fun fa c' pm ctv H1 s1 I1 new hfa hfn hfr hco => ?_)
  refine Calls.spliced_nil ⟨I1.kIn, ?_⟩
  have a1 := after_lam rel hT hu new
  have rel1 := rel.step a1
  obtain ⟨oc, od, dV, kV, doc, pm2, an, cdv, ct, osl, rfl, lk, hcd2, -, -⟩ := Fd.ex
  have tb1 : TabsC (CsF C F H1 fa c' (X.env.qual ++ "<lambda>")) F H1 := ⟨rel1.tabs.1, fun p hp => by
    rcases List.mem_cons.mp hp with rfl | hp
    · exact hco
    · exact rel1.tabs.2 p hp, rel1.tabs.3⟩
  have up := cup_F hF F H1 fa c' (X.env.qual ++ "<lambda>")
  have pl : (CsF C F H1 fa c' (X.env.qual ++ "<lambda>")).st = C.st := rfl
  refine wpAny_call (codeAny_mono (LamX.run_ofS (CX := L2.CX X.prog X.w) (N := N) (ps := [a]) (us := [.ref fa]) (vs := [.ref fa]) (E := fun _ _ _ => False) (Q := Q) lk hcd2 Sc hr I1.env0 (hbg s1 [.ref fa] I1.kIn rfl) (.cons rfl .nil) rfl fun hr' => ?_) fun r s' got => ?_)
  · refine ⟨tS (CsF C F H1 fa c' (X.env.qual ++ "<lambda>")) noW (m (f ρ)), hgb cdv s1 F H1 (f ρ) fa c' _ hr' hgd fun W pn xe p1 p2 tk => ?_, ?_⟩
    · refine pe_imp (pe_thunk (T := fun E => tE C (fun cls d _ H => E cls d H) f) I1 L hfa hfn hfr (hbl _ _ _ _ _) tk hr' hgd (fun A outer s H E hr hg => hbody A outer s H E fa c' hr hg) hN hva hd hcd) ?_
      rintro σZ HZ Q' ⟨F0z, H0z, Fz, ρz, gz, relz, hz⟩
      unfold eTh at hz
      split at hz
      · rename_i eq
        obtain ⟨v, hs, rv⟩ := relz.slot 0 _ eq
        have rv : Rep (CsF C F H1 fa c' (X.env.qual ++ "<lambda>")) Fz v (.fn 0) := rv
        cases rv with
        | fn hfn0 =>
          have e0 : some fa = some _ := hfn0
          cases e0
          have cc := relz.tabs.2 (c', X.env.qual ++ "<lambda>") List.mem_cons_self
          obtain ⟨e1, e2⟩ := relz.ent _ rfl
          have stp : Stp C F H1 Fz HZ := by
            have := relz.stp
            rw [e1, e2] at this
            exact this.conv (C' := C) (C := CsF C F H1 fa c' (X.env.qual ++ "<lambda>")) rfl
          have az : After C F H1 gz Fz HZ := ⟨stp, relz.st.conv (C := CsF C F H1 fa c' (X.env.qual ++ "<lambda>")) (C' := C) rfl, ⟨relz.tabs.1, fun p hp => relz.tabs.2 p (List.mem_cons_of_mem _ hp), relz.tabs.3⟩⟩
          have back : ∀ {g' F' H'}, After C Fz HZ g' F' H' → After (CsF C F H1 fa c' (X.env.qual ++ "<lambda>")) Fz HZ g' F' H' := fun {g' F' H'} a => After.conv (C := C) (C' := CsF C F H1 fa c' (X.env.qual ++ "<lambda>")) rfl a ⟨a.tabs.1, fun p hp => by
            rcases List.mem_cons.mp hp with rfl | hp
            · exact code_stays az.st a.stp cc
            · exact a.tabs.2 p hp, a.tabs.3⟩
          refine ⟨hs, cc, F0, H0, Fz, ρ, gz, rel1.step az, onOk_mono hz (fun b g' k v F' H' a r => k v F' H' (back a) (r.up up)) fun x g' k cls d F' H' a e => k cls d F' H' (back a) ?_⟩
          obtain ⟨Ca, q1, q2, q3⟩ := e
          exact ⟨Ca, q1, q2, q3.imp id fun ⟨dd, xs, z1, z2, z3⟩ => ⟨dd, xs, z1, z2, z3.up up⟩⟩
      · exact hz.elim
    · refine ⟨F, H1, F, ro0 N.length [.fn 0], g0, rel_start a1.stp.le (a1.st.conv rfl) tb1 (.cons (.fn (by show (if (0 : Nat) = 0 then some fa else C.fns 0) = some fa; rw [if_pos rfl])) .nil) (fun p z => by cases z; exact ⟨rfl, rfl⟩), post_fn (E := fun _ _ _ => False) ?_⟩
      unfold eLam fnTh at h
      cases q : ends (m (f ρ) (ro0 N.length [.fn 0]) g0) with
      | ok b g1 =>
        rw [q] at h
        dsimp only at h
        split at h
        · rename_i hp
          intro v F' H' a r
          have a' : After C F H1 g1 F' H' := a.conv (C := CsF C F H1 fa c' (X.env.qual ++ "<lambda>")) (C' := C) rfl ⟨a.tabs.1, fun p hp => a.tabs.2 p (List.mem_cons_of_mem _ hp), a.tabs.3⟩
          exact h v F' H' (a1.trans a') ((RB.pure (C := C) (C' := CsF C F H1 fa c' (X.env.qual ++ "<lambda>")) rfl hp r).early a1)
        · exact h.elim
      | er x g1 => rw [q] at h; exact h.elim
      | no => rw [q] at h; exact h.elim
  · match r, got with
    | .error e, got => obtain ⟨_, _, _, _, _, _, _, _, _, _, _, _, z⟩ := got; exact z.elim
    | .ok (.ret u), got => exact I1.after got
end
end Sx

set_option Elab.async false
set_option linter.all false
set_option maxRecDepth 100000
set_option maxHeartbeats 4000000
/-! Sx13: repr(x) == repr(y). -/
namespace Sx
open PySem PySem.Spec PyProof.Rows L2
structure Shows (n : Nat) (d : D) (k : Nat) : Prop where
  sh : d.py.showable = true
  len : d.py.shown.length ≤ k
  lay : d.py.canLay0 = true
  dep : d.py.depth ≤ n
structure ShowsL (n : Nat) (ds : List D) (k : Nat) : Prop where
  sh : PyData.showableAll (pys ds) = true
  len : ((PyData.shownAll (pys ds)).map (·.length)).sum ≤ k
  lay : PyData.canLayAll0 (pys ds) = true
  dep : PyData.depthAll (pys ds) ≤ n
  num : (PyData.shownAll (pys ds)).length = ds.length
theorem shows_list {n : Nat} (ih : ∀ d k, plainAt n d = true → showAt n d = some k → Shows n d k) : ∀ (ds : List D) (k : Nat), ds.all (plainAt n) = true → sumO (ds.map (showAt n)) = some k → ShowsL n ds k
  | [], k, _, e => by
    simp only [List.map_nil, sumO, Option.some.injEq] at e
    subst e
    exact ⟨rfl, by simp [pys, PyData.shownAll], rfl, by simp [pys, PyData.depthAll], by simp [pys, PyData.shownAll]⟩
  | d :: ds, k, p, e => by
    rw [List.all_cons, Bool.and_eq_true] at p
    rw [List.map_cons] at e
    cases q : showAt n d with
    | none => rw [q] at e; simp [sumO] at e
    | some a =>
      rw [q] at e
      unfold sumO at e
      cases q2 : sumO (ds.map (showAt n)) with
      | none => rw [q2] at e; simp at e
      | some b =>
        rw [q2] at e
        simp only [Option.some.injEq] at e
        have h1 := ih d a p.1 q
        have h2 := shows_list ih ds b p.2 q2
        refine ⟨?_, ?_, ?_, ?_, ?_⟩
        · simp only [pys, PyData.showableAll, h1.sh, h2.sh, Bool.and_self]
        · simp only [pys, PyData.shownAll, List.map_cons, List.sum_cons]
          have := h1.len
          have := h2.len
          omega
        · simp only [pys, PyData.canLayAll0, h1.lay, h2.lay, Bool.and_self]
        · simp only [pys, PyData.depthAll]
          exact Nat.max_le.mpr ⟨h1.dep, h2.dep⟩
        · simp only [pys, PyData.shownAll, List.length_cons, h2.num]
theorem sum_lt {k m : Nat} {o : Option Nat} (h : (match o with | some a => some (a + m) | none => none) = some k) : ∃ a, o = some a ∧ k = a + m := by
  cases o with
  | none => cases h
  | some a => cases h; exact ⟨a, rfl, rfl⟩
theorem shows : ∀ (n : Nat) (d : D) (k : Nat), plainAt n d = true → showAt n d = some k → Shows n d k
  | n, .non, k, _, e => by
    have e : some 4 = some k := by cases n <;> exact e
    cases e
    exact ⟨rfl, by show ("None" : Str).length ≤ 4; decide, rfl, Nat.zero_le _⟩
  | n, .bl b, k, _, e => by
    have e : some 5 = some k := by cases n <;> exact e
    cases e
    exact ⟨rfl, by cases b <;> (first | (show ("True" : Str).length ≤ 5; decide) | (show ("False" : Str).length ≤ 5; decide)), rfl, Nat.zero_le _⟩
  | n, .int i, k, _, e => by
    have e : (if i.natAbs.log2 < 1920 then some 1921 else none) = some k := by cases n <;> exact e
    split at e
    · rename_i h
      cases e
      refine ⟨decide_eq_true h, ?_, rfl, Nat.zero_le _⟩
      show (Str.ofString (toString i)).length ≤ 1921
      rw [PySem.ofString_length]
      exact PySem.int_text_length_le (k := 1920) (by decide) h
    · cases e
  | n, .str x, k, p, e => by
    have e : some (12 * x.length + 4) = some k := by cases n <;> exact e
    have p : PyData.strOk x = true := by cases n <;> exact p
    cases e
    refine ⟨rfl, ?_, p, Nat.zero_le _⟩
    have h := StrLaws.reprText_len x fun c hc => by
      unfold PyData.strOk at p
      rw [Array.all_eq_true_iff_forall_mem] at p
      have := of_decide_eq_true (p c (Array.mem_toList_iff.mp hc))
      omega
    show (reprText x).length ≤ _
    omega
  | 0, .tup _, _, p, _ => by simp [plainAt] at p
  | 0, .lst _, _, p, _ => by simp [plainAt] at p
  | n + 1, .tup ds, k, p, e => by
    have p : ds.all (plainAt n) = true := by simpa only [plainAt] using p
    have e : (match sumO (ds.map (showAt n)) with | some k => some (k + 2 * ds.length + 4) | none => none) = some k := e
    split at e
    · rename_i a q
      cases e
      have h := shows_list (shows n) ds a p q
      refine ⟨h.sh, ?_, h.lay, ?_⟩
      · have h2 := tupleText_len_le (PyData.shownAll (pys ds))
        rw [h.num] at h2
        have := h.len
        show (tupleText (PyData.shownAll (pys ds))).length ≤ _
        omega
      · have := h.dep
        show PyData.depthAll (pys ds) + 1 ≤ n + 1
        omega
    · cases e
  | n + 1, .lst ds, k, p, e => by
    have p : ds.all (plainAt n) = true := by simpa only [plainAt] using p
    have e : (match sumO (ds.map (showAt n)) with | some k => some (k + 2 * ds.length + 4) | none => none) = some k := e
    split at e
    · rename_i a q
      cases e
      have h := shows_list (shows n) ds a p q
      refine ⟨h.sh, ?_, h.lay, ?_⟩
      · have h2 := listText_len_le (PyData.shownAll (pys ds))
        rw [h.num] at h2
        have := h.len
        show (listText (PyData.shownAll (pys ds))).length ≤ _
        omega
      · have := h.dep
        show PyData.depthAll (pys ds) + 1 ≤ n + 1
        omega
    · cases e
  | n, .dk _, _, p, _ => by cases n <;> simp [plainAt] at p
  | n, .dt _, _, p, _ => by cases n <;> simp [plainAt] at p
  | n, .fn _, _, p, _ => by cases n <;> simp [plainAt] at p
  | n, .exc _ _, _, p, _ => by cases n <;> simp [plainAt] at p
  | n, .st, _, p, _ => by cases n <;> simp [plainAt] at p
theorem can_show {d : D} (h : canShow d = true) : Shows DEEP d 16000000 ∧ plainAt DEEP d = true := by
  unfold canShow at h
  rw [Bool.and_eq_true] at h
  obtain ⟨h1, h2⟩ := h
  cases q : showAt DEEP d with
  | none => rw [q] at h2; cases h2
  | some k =>
    rw [q] at h2
    have h3 := of_decide_eq_true h2
    have s := shows DEEP d k h1 q
    exact ⟨⟨s.sh, Nat.le_trans s.len h3, s.lay, s.dep⟩, h1⟩
/-- what repr(x) gives -/
def rRepr (K : PySem.W.Frag) : List V → Hp → VK → Prop := fun xs H Q => ∃ x d, xs = [x] ∧ Dp K H x d ∧ d.showable = true ∧ d.shown.length ≤ 16000000 ∧ d.canLay0 = true ∧ d.depth ≤ DEEP ∧ Q (.str d.shown) H
theorem call_repr {X : Cx} {k : Nat} (hr : Room k X.A) (hgd : X.A.guards = some []) : CallR X (.builtin "repr") (rRepr X.K) := by
  intro pins s σ H xs us Q I r h
  obtain ⟨x, d, rfl, hd, h1, h2, h3, h4, q⟩ := h
  have hz : d.shown.length ≤ sizeLine := by rw [sizeLine_eq]; omega
  obtain ⟨u, rfl, ru⟩ := vals1 r
  have hu : X.A.units + (d.depth + 1) < cLine := by
    have := hr.un
    have e : DEEP = 24 := rfl
    omega
  have road : ∀ a, u = .ref a → wpAny (model X.prog X.w) X.A (call (.builtin "repr") [u]) (EP X pins σ Q) X.xe s := fun a e => by
    subst e
    obtain ⟨as, rd⟩ := Dp.reads I d x _ hd ru
    refine repr_of_reads' rd h1 (PyData.noDict_hsm (PyData.hasDict_of_canLay d h3)) hgd hu (fun _ _ e => e) (fun h' t tk hk => ?_) hz
    exact ⟨.str d.shown, H, I.kept hk, ⟨t, rfl⟩, q⟩
  cases hd with
  | non =>
    cases ru
    exact PySem.P.repr_of_none ⟨.str "None", H, I.tok _, ⟨_, rfl⟩, q⟩
  | bl b =>
    cases ru
    exact PySem.P.repr_of_bool ⟨.str (if b then "True" else "False"), H, I.tok _, ⟨_, rfl⟩, q⟩
  | int i =>
    obtain ⟨t, rfl⟩ := ru
    exact PySem.P.repr_of_int (of_decide_eq_true h1) ⟨.str (toString i), H, I.tok _, ⟨_, rfl⟩, q⟩
  | str x =>
    obtain ⟨t, rfl⟩ := ru
    exact PySem.P.repr_of_str ⟨.str (reprText x), H, I.tok _, ⟨_, rfl⟩, q⟩ hz
  | lst s1 s2 => exact road _ ru
  | tup s1 s2 => exact road _ ru
theorem all2_same {f : D → D → Bool} (h : ∀ x y, f x y = true → x.py = y.py) : ∀ (xs ys : List D), all2 f xs ys = true → pys xs = pys ys
  | [], [], _ => rfl
  | [], _ :: _, e => by cases e
  | _ :: _, [], e => by cases e
  | x :: xs, y :: ys, e => by
    have e : (f x y && all2 f xs ys) = true := e
    rw [Bool.and_eq_true] at e
    simp only [pys, h x y e.1, all2_same h xs ys e.2]
theorem same_py : ∀ (n : Nat) (x y : D), sameAt n x y = true → x.py = y.py := by
  intro n
  induction n with
  | zero =>
    intro x y h
    cases x <;> cases y <;> simp_all [sameAt, D.py]
  | succ n ih =>
    intro x y h
    cases x <;> cases y <;> simp_all [sameAt, D.py]
    all_goals exact all2_same ih _ _ h
theorem reprSame_eq {x y : D} : reprSame x y = decide (x.py.shown = y.py.shown) := by
  unfold reprSame
  cases q : sameAt DEEP x y with
  | false => simp
  | true => simp [same_py DEEP x y q]
section
variable {X : Cx} {C : Cs} {W : WX} {pos : Pos}
/-- repr(a) == repr(b) -/
theorem se_reprEq {a b : Expr} {f h : E} {p1 p2 q1 q2 : Pos} {k : Nat} (hr : Room k X.A) (hgd : X.A.guards = some []) (hg : Gl X "repr") (hm : X.mg "repr" = none) (ha : SE X C W a f) (hb : SE X C W b h)
    (hma : behindInMarks .Eq (.Call (.Name "repr" p2) [b] [] q2) = false := by first | rfl | exact nomark _)
    (he : starEach [a] X.env = (false, eval a X.env) :: starEach [] X.env := by rfl) (he2 : starEach [b] X.env = (false, eval b X.env) :: starEach [] X.env := by rfl) :
    SE X C W (.Compare (.Call (.Name "repr" p1) [a] [] q1) [.Eq] [.Call (.Name "repr" p2) [b] [] q2] pos) (eRepr f h) := by
  have hv : bootBuiltins "repr" = some (.builtin "repr") := by decide +kernel
  refine pe_imp (pe_cmpR op_eq (pe_callB (call_repr hr hgd) hg hm hv (pa_cons ha pa_nil he) (by decide) (by decide) he) (pe_callB (call_repr hr hgd) hg hm hv (pa_cons hb pa_nil he2) (by decide) (by decide) he2) hma) ?_
  rintro σ H Q ⟨F0, H0, F, ρ, g, rel, hh⟩
  unfold eRepr at hh
  rw [onOk_bind] at hh
  refine ⟨F0, H0, F, ρ, g, rel, onOk_mono hh (fun x g1 h1 v F1 H1 a1 r1 => ?_) fun x g1 h1 => h1⟩
  have rel1 := rel.step a1
  split at h1
  · rename_i c1
    obtain ⟨s1, p1⟩ := can_show c1
    rw [onOk_bind] at h1
    refine ⟨v, x.d.py, rfl, dp_ro a1.stp.le p1 r1.ro, s1.sh, s1.len, s1.lay, s1.dep, ?_⟩
    refine ⟨F0, H0, F1, ρ, g1, rel1, onOk_mono h1 (fun y g2 h2 w F2 H2 a2 r2 => ?_) fun x g2 h2 cls d F2 H2 a2 e2 => h2 cls d F2 H2 (a1.trans a2) e2⟩
    split at h2
    · rename_i c2
      obtain ⟨s2, p2⟩ := can_show c2
      refine ⟨w, y.d.py, rfl, dp_ro a2.stp.le p2 r2.ro, s2.sh, s2.len, s2.lay, s2.dep, rfl, ?_⟩
      have e : decide (V.str x.d.py.shown = V.str y.d.py.shown) = reprSame x.d y.d := by
        rw [reprSame_eq, Bool.eq_iff_iff, decide_eq_true_eq, decide_eq_true_eq]
        exact ⟨fun z => V.str.inj z, fun z => by rw [z]⟩
      rw [e]
      exact h2 _ F2 H2 (a1.trans a2) (.bl _)
    · exact h2.elim
  · exact h1.elim
end
end Sx

set_option Elab.async false
set_option linter.all false
set_option maxRecDepth 100000
set_option maxHeartbeats 4000000
/-! Sx14: the law's draw state. -/
namespace Sx
open PySem PySem.Spec PyProof.Rows L2
/-! ### what it computes -/
def isSt (ρ : Ro) (i : Nat) : Bool := match ρ[i]? with
  | some (some ⟨.sh, .st⟩) => true
  | _ => false
def eStAt (i : Nat) : E := fun ρ g => if isSt ρ i then (match g with | some gs => .ok (sh (.int gs.pos)) g | none => .no) else .no
def eStLen (i : Nat) : E := fun ρ g => if isSt ρ i then (match g with | some gs => .ok (sh (.int gs.cells.length)) g | none => .no) else .no
def atZ (is : List Int) (n : Int) : Option Int := match ixN' is.length n with | some j => is[j]? | none => none
def eStRow (lefts : Bool) (i : Nat) (e : E) : E := fun ρ g => if isSt ρ i then (e ρ g).bind fun k g1 => match k.d, g1 with
  | .int n, some gs => (match atZ (if lefts then gs.lefts else gs.cells) n with | some c => .ok (sh (.int c)) g1 | none => .no)
  | _, _ => .no
  else .no
def sStAt (i : Nat) (f : E) : S := fun ρ g => onR (f ρ g) ρ fun b g1 => if isSt ρ i then (match b.d, g1 with
  | .int n, some gs => .nx ρ (some { gs with pos := n })
  | _, _ => .no) else .no
def sStLeft (i : Nat) (e f : E) : S := fun ρ g => onR (f ρ g) ρ fun b g1 => if isSt ρ i then onR (e ρ g1) ρ (fun k g2 => match b.d, k.d, g2 with
  | .int n, .int m, some gs => (match ixN' gs.lefts.length m with | some j => .nx ρ (some { gs with lefts := gs.lefts.set j n }) | none => .no)
  | _, _, _ => .no) else .no
section
variable {X : Cx} {C : Cs} {W : WX} {pos : Pos}
theorem st_at {F0 H0 F H : Hp} {ρ : Ro} {g : G} {σ : L2.St} {i : Nat} (rel : Rel C F0 H0 F ρ g σ H) (h : isSt ρ i = true) : ∃ x y z, C.st = some (x, y, z) ∧ σ[i]? = some (some (.ref x)) := by
  unfold isSt at h
  split at h
  · rename_i q
    obtain ⟨v, h1, h2⟩ := rel.slot i _ q
    have h2 : Rep C F v .st := h2
    cases h2 with
    | st e => exact ⟨_, _, _, e, h1⟩
  · cases h
theorem st_get {F H : Hp} {gs : GS} {x y z : Addr} (e : C.st = some (x, y, z)) (s : StOk C F (some gs) H) : H x = some (.dK [(.inr "cells", .ref y), (.inr "lefts", .ref z), (.inr "at", .int gs.pos)]) ∧ H y = some (.lst (gs.cells.map V.int)) ∧ H z = some (.lst (gs.lefts.map V.int)) ∧
    x ≠ y ∧ x ≠ z ∧ y ≠ z ∧ F x = none ∧ F y = none ∧ F z = none := by
  unfold StOk at s
  rw [e] at s
  exact s
theorem st_some {F H : Hp} {g : G} {x y z : Addr} (e : C.st = some (x, y, z)) (s : StOk C F g H) : ∃ gs, g = some gs := by
  unfold StOk at s
  rw [e] at s
  cases g with
  | none => exact s.elim
  | some gs => exact ⟨gs, rfl⟩
theorem kv_at {y z : Addr} {n : V} : valV ([(.inr "cells", .ref y), (.inr "lefts", .ref z), (.inr "at", n)] : List (Key × V)) (.inr "at") = some n := rfl
theorem kv_cells {y z : Addr} {n : V} : valV ([(.inr "cells", .ref y), (.inr "lefts", .ref z), (.inr "at", n)] : List (Key × V)) (.inr "cells") = some (.ref y) := rfl
theorem kv_lefts {y z : Addr} {n : V} : valV ([(.inr "cells", .ref y), (.inr "lefts", .ref z), (.inr "at", n)] : List (Key × V)) (.inr "lefts") = some (.ref z) := rfl
theorem at_map {is : List Int} {n c : Int} (h : atZ is n = some c) : atI (is.map V.int) n = some (.int c) := by
  unfold atZ at h
  unfold atI
  have : ixN (is.map V.int).length n = ixN' is.length n := by rw [List.length_map]; rfl
  rw [this]
  cases q : ixN' is.length n with
  | none => rw [q] at h; cases h
  | some j =>
    rw [q] at h
    have h : is[j]? = some c := h
    show (is.map V.int)[j]? = _
    simp only [List.getElem?_map, h, Option.map_some]
section
variable {x : Str} {p p2 : Pos} {j : Nat} {i : Nat}
/-- s['at'] -/
theorem se_stAt (hu : X.A.units + 65 < cLine) (hN : X.N[i]? = some x := by rfl) (hv : Vis X.env.scope x := by first | exact Or.inl rfl | exact Or.inr (Or.inl rfl) | exact Or.inr (Or.inr rfl)) (hd : (x == ("__debug__" : Str)) = false := by decide) (hcd : (x == ("__classdict__" : Str)) = false := by decide)
    (hs : NoSl (.Constant (.str "at") j p2) := by exact fun _ _ => rfl) : SE X C W (.Subscript (.Name x p) (.Constant (.str "at") j p2) pos) (eStAt i) := by
  refine pe_imp (pe_dget (by omega) (pe_var hN hv hd hcd) pe_str hs) ?_
  rintro σ H Q ⟨F0, H0, F, ρ, g, rel, h⟩
  unfold eStAt at h
  split at h
  · rename_i hi
    obtain ⟨a, b, c, e, hσ⟩ := st_at rel hi
    obtain ⟨gs, rfl⟩ := st_some e rel.st
    obtain ⟨h1, _⟩ := st_get e rel.st
    exact ⟨.ref a, hσ, a, _, rfl, .inl ⟨_, .inr "at", .inl h1, rfl, kv_at.symm⟩, h _ F H rel.after (.int _)⟩
  · exact h.elim
/-- len(s['cells']) -/
theorem se_stLen {p3 p4 : Pos} (hu : X.A.units + 65 < cLine) (hg : Gl X "len") (hm : X.mg "len" = none) (hN : X.N[i]? = some x := by rfl) (hv : Vis X.env.scope x := by first | exact Or.inl rfl | exact Or.inr (Or.inl rfl) | exact Or.inr (Or.inr rfl)) (hd : (x == ("__debug__" : Str)) = false := by decide) (hcd : (x == ("__classdict__" : Str)) = false := by decide)
    (hs : NoSl (.Constant (.str "cells") j p2) := by exact fun _ _ => rfl) (he : starEach [.Subscript (.Name x p) (.Constant (.str "cells") j p2) p3] X.env = (false, eval (.Subscript (.Name x p) (.Constant (.str "cells") j p2) p3) X.env) :: starEach [] X.env := by rfl) :
    SE X C W (.Call (.Name "len" p4) [.Subscript (.Name x p) (.Constant (.str "cells") j p2) p3] [] pos) (eStLen i) := by
  refine pe_imp (pe_callB call_len_seq hg hm (by decide +kernel) (pa_cons (pe_dget (by omega) (pe_var hN hv hd hcd) pe_str hs) pa_nil he) (by decide) (by decide) he) ?_
  rintro σ H Q ⟨F0, H0, F, ρ, g, rel, h⟩
  unfold eStLen at h
  split at h
  · rename_i hi
    obtain ⟨a, b, c, e, hσ⟩ := st_at rel hi
    obtain ⟨gs, rfl⟩ := st_some e rel.st
    obtain ⟨h1, h2, _⟩ := st_get e rel.st
    refine ⟨.ref a, hσ, a, _, rfl, .inl ⟨_, .inr "cells", .inl h1, rfl, kv_cells.symm⟩, b, _, rfl, .inl (SqL.of h2), ?_⟩
    rw [List.length_map]
    exact h _ F H rel.after (.int _)
  · exact h.elim
/-- s['cells'][e], s['lefts'][e] -/
theorem se_stRow (lefts : Bool) {p3 : Pos} {ie : Expr} {f : E} {w : Str} (hw : w = if lefts then "lefts" else "cells") (hu : X.A.units + 65 < cLine) (he : SE X C W ie f) (hN : X.N[i]? = some x := by rfl) (hv : Vis X.env.scope x := by first | exact Or.inl rfl | exact Or.inr (Or.inl rfl) | exact Or.inr (Or.inr rfl)) (hd : (x == ("__debug__" : Str)) = false := by decide) (hcd : (x == ("__classdict__" : Str)) = false := by decide)
    (hs : NoSl (.Constant (.str w) j p2) := by exact fun _ _ => rfl) (hp : PlainIx ie := by exact fun _ _ => rfl) : SE X C W (.Subscript (.Subscript (.Name x p) (.Constant (.str w) j p2) p3) ie pos) (eStRow lefts i f) := by
  refine pe_imp (pe_ix ix_list (pe_dget (by omega) (pe_var hN hv hd hcd) pe_str hs) he hp) ?_
  rintro σ H Q ⟨F0, H0, F, ρ, g, rel, h⟩
  unfold eStRow at h
  split at h
  · rename_i hi
    obtain ⟨a, b, c, e, hσ⟩ := st_at rel hi
    obtain ⟨gs, rfl⟩ := st_some e rel.st
    obtain ⟨h1, _⟩ := st_get e rel.st
    rw [onOk_bind] at h
    refine ⟨.ref a, hσ, a, .ref (if lefts then c else b), rfl, ?_, ?_⟩
    · subst hw
      cases lefts
      · exact .inl ⟨_, .inr "cells", .inl h1, rfl, kv_cells.symm⟩
      · exact .inl ⟨_, .inr "lefts", .inl h1, rfl, kv_lefts.symm⟩
    · refine ⟨F0, H0, F, ρ, some gs, rel, onOk_mono h (fun k g1 h1 u F1 H1 a1 r1 => ?_) fun x g1 h1 => h1⟩
      split at h1
      · rename_i n gs1 ek
        have rk := r1.ro
        rw [ek] at rk
        rw [ro_int rk]
        obtain ⟨_, k2, k3, _⟩ := st_get e a1.st
        split at h1
        · rename_i c0 ec
          refine ⟨(if lefts then c else b), (if lefts then gs1.lefts else gs1.cells).map V.int, n, .int c0, rfl, rfl, ?_, at_map ec, h1 _ F1 H1 a1 (.int _)⟩
          cases lefts
          · exact SqL.of k2
          · exact SqL.of k3
        · exact h1.elim
      · exact h1.elim
  · exact h.elim
/-- the state changes -/
theorem Rel.stmut {F0 H0 F H : Hp} {ρ : Ro} {g g' : G} {σ : L2.St} {a : Addr} {o : HO} (rel : Rel C F0 H0 F ρ g σ H) (ha : InSt C a) (ho : ∃ u, H a = some u ∧ PlainO u) (st : StOk C F g' (upd H a o)) : Rel C F0 H0 F ρ g' σ (upd H a o) := by
  obtain ⟨u, hu, pl⟩ := ho
  have fa : F a = none := ha.free rel.st
  refine ⟨⟨rel.stp.ff, fun c z h => ?_, fun c z h n t => ?_, fun c h => ?_, rel.stp.priv⟩, st, tabs_upd rel.tabs hu pl, rel.len, fun j c h => ?_, rel.dis, rel.ent⟩
  · rw [upd_ne (fun q => by subst q; rw [fa] at h; cases h)]; exact rel.stp.le c z h
  · rw [upd_ne (fun q => by subst q; exact n ha)]; exact rel.stp.keep c z h n t
  · by_cases q : c = a
    · subst q; rw [upd_same]; simp
    · rw [upd_ne q]; exact rel.stp.there c h
  · obtain ⟨w, hw, rw'⟩ := rel.slot j c h
    refine ⟨w, hw, ?_⟩
    unfold RS at rw' ⊢
    cases ec : c.t with
    | sh => rw [ec] at rw'; exact rw'
    | bw => rw [ec] at rw'; exact rw'
    | ow =>
      rw [ec] at rw'
      obtain ⟨x, hx, rfl, f2, n2, t2⟩ := rw'
      exact ⟨x, hx, rfl, f2, n2, t2.other (fun z => by subst z; exact n2 ha)⟩
theorem st_put {F H : Hp} {gs gs' : GS} {x y z a : Addr} {o : HO} (e : C.st = some (x, y, z)) (s : StOk C F (some gs) H) (h1 : upd H a o x = some (.dK [(.inr "cells", .ref y), (.inr "lefts", .ref z), (.inr "at", .int gs'.pos)])) (h2 : upd H a o y = some (.lst (gs'.cells.map V.int))) (h3 : upd H a o z = some (.lst (gs'.lefts.map V.int))) : StOk C F (some gs') (upd H a o) := by
  obtain ⟨_, _, _, r⟩ := st_get e s
  unfold StOk
  rw [e]
  exact ⟨h1, h2, h3, r⟩
/-- s['at'] = e -/
theorem ss_stAt {sp : Pos} {e : Expr} {f : E} (hu : X.A.units + 65 < cLine) (he : SE X C W e f) (hN : X.N[i]? = some x := by rfl) (hv : Vis X.env.scope x := by first | exact Or.inl rfl | exact Or.inr (Or.inl rfl) | exact Or.inr (Or.inr rfl)) (hd : (x == ("__debug__" : Str)) = false := by decide) (hcd : (x == ("__classdict__" : Str)) = false := by decide)
    (hs : swapsWithSole [.Subscript (.Name x p) (.Constant (.str "at") j p2) sp] e pos.line X.env = pure false := by rfl) (hw : swappedStores [.Subscript (.Name x p) (.Constant (.str "at") j p2) sp] e X.env = pure none := by rfl)
    (h1 : (assignEach [.Subscript (.Name x p) (.Constant (.str "at") j p2) sp] X.env).map (·.2) = [assign (.Subscript (.Name x p) (.Constant (.str "at") j p2) sp) X.env] := by rfl)
    (hg : PG X (.Subscript (.Name x p) (.Constant (.str "at") j p2) sp) (gSub (tVar i) (tC (.str "at")) rSetD) := by exact pg_sub (pe_var (by rfl) (by first | exact Or.inl rfl | exact Or.inr (Or.inl rfl) | exact Or.inr (Or.inr rfl))) pe_str (set_dict (Nat.lt_of_le_of_lt (Nat.add_le_add_left (by decide) _) hu))) :
    SS X C W (.Assign [.Subscript (.Name x p) (.Constant (.str "at") j p2) sp] e pos) (sStAt i f) := by
  refine ps_imp (ps_asg he hg hs hw h1) ?_
  rintro D' σ H ⟨F0, H0, F, ρ, g, rel, t⟩
  refine ⟨F0, H0, F, ρ, g, rel, onOk_mono (on_r rel (.refl F) t) (fun b g1 h1 y F1 H1 a1 r1 => ?_) fun x g1 h1 => h1⟩
  have rel1 := rel.step a1
  split at h1
  · rename_i hi
    split at h1
    · rename_i n gs eb
      obtain ⟨a, yy, zz, e, hσ⟩ := st_at rel1 hi
      have rb := r1.ro
      rw [eb] at rb
      rw [ro_int rb]
      obtain ⟨k1, k2, k3, n1, n2, n3, f1, f2, f3⟩ := st_get e rel1.st
      refine ⟨.ref a, hσ, a, _, rfl, DPut.k (k := .inr "at") k1 (by show 3 < sizeLine; rw [sizeLine_eq]; decide), ?_⟩
      have s2 : StOk C F1 (some { gs with pos := n }) (upd H1 a (.dK [(.inr "cells", .ref yy), (.inr "lefts", .ref zz), (.inr "at", .int n)])) :=
        st_put e rel1.st upd_same (by rw [upd_ne n1.symm]; exact k2) (by rw [upd_ne n2.symm]; exact k3)
      exact h1 σ F1 _ a1.stp.ff (rel1.stmut (by unfold InSt; rw [e]; exact .inl rfl) ⟨_, k1, trivial⟩ s2)
    · exact h1.elim
  · exact h1.elim
/-- s['lefts'][e] = v -/
theorem ss_stLeft {sp p3 : Pos} {ie e : Expr} {f h : E} (he : SE X C W e f)
    (hs : swapsWithSole [.Subscript (.Subscript (.Name x p) (.Constant (.str "lefts") j p2) p3) ie sp] e pos.line X.env = pure false := by rfl) (hw : swappedStores [.Subscript (.Subscript (.Name x p) (.Constant (.str "lefts") j p2) p3) ie sp] e X.env = pure none := by rfl)
    (h1 : (assignEach [.Subscript (.Subscript (.Name x p) (.Constant (.str "lefts") j p2) p3) ie sp] X.env).map (·.2) = [assign (.Subscript (.Subscript (.Name x p) (.Constant (.str "lefts") j p2) p3) ie sp) X.env] := by rfl)
    (hg : PG X (.Subscript (.Subscript (.Name x p) (.Constant (.str "lefts") j p2) p3) ie sp) (gSub (tDGet (tVar i) (tC (.str "lefts"))) (tE C W h) rSetL)) :
    SS X C W (.Assign [.Subscript (.Subscript (.Name x p) (.Constant (.str "lefts") j p2) p3) ie sp] e pos) (sStLeft i h f) := by
  refine ps_imp (ps_asg he hg hs hw h1) ?_
  rintro D' σ H ⟨F0, H0, F, ρ, g, rel, t⟩
  refine ⟨F0, H0, F, ρ, g, rel, onOk_mono (on_r rel (.refl F) t) (fun b g1 h1 y F1 H1 a1 r1 => ?_) fun x g1 h1 => h1⟩
  have rel1 := rel.step a1
  split at h1
  · rename_i hi
    obtain ⟨a, yy, zz, e, hσ⟩ := st_at rel1 hi
    obtain ⟨gs0, rfl⟩ := st_some e rel1.st
    obtain ⟨k1, _⟩ := st_get e rel1.st
    refine ⟨.ref a, hσ, a, .ref zz, rfl, .inl ⟨_, .inr "lefts", .inl k1, rfl, kv_lefts.symm⟩, ?_⟩
    refine ⟨F0, H0, F1, ρ, some gs0, rel1, onOk_mono (on_r rel1 a1.stp.ff h1) (fun k g2 h2 u F2 H2 a2 r2 => ?_) fun x g1 h1 => h1⟩
    have rel2 := rel1.step a2
    split at h2
    · rename_i n m gs eb ek
      have rb := r1.ro
      rw [eb] at rb
      have rk := r2.ro
      rw [ek] at rk
      rw [ro_int rb, ro_int rk]
      obtain ⟨k1, k2, k3, n1, n2, n3, f1, f2, f3⟩ := st_get e rel2.st
      split at h2
      · rename_i q eq
        have eq' : ixN (gs.lefts.map V.int).length m = some q := by rw [List.length_map]; exact eq
        refine ⟨zz, _, m, q, rfl, rfl, k3, eq', ?_⟩
        have s2 : StOk C F2 (some { gs with lefts := gs.lefts.set q n }) (upd H2 zz (.lst ((gs.lefts.map V.int).set q (.int n)))) :=
          st_put e rel2.st (by rw [upd_ne n2]; exact k1) (by rw [upd_ne n3]; exact k2) (by rw [upd_same, List.map_set])
        exact h2 σ F2 _ (a1.stp.ff.trans a2.stp.ff) (rel2.stmut (by unfold InSt; rw [e]; exact .inr (.inr rfl)) ⟨_, k3, trivial⟩ s2)
      · exact h2.elim
    · exact h2.elim
  · exact h1.elim
end
end
end Sx

set_option Elab.async false
set_option linter.all false
set_option maxRecDepth 100000
set_option maxHeartbeats 4000000
/-! Sx15: the draw state is made. -/
namespace Sx
open PySem PySem.Spec PyProof.Rows L2
def cells0 (ns : List Int) : List Int := if ns = [] then [0] else ns
def gs0 (ns : List Int) : GS := ⟨cells0 ns, (cells0 ns).map fun c => if (1000000000000000000 : Int) ≤ c then c else 0, 0⟩
abbrev CsS (C : Cs) (x y z : Addr) : Cs := { C with st := some (x, y, z) }
def spBegin (C : Cs) (K : PySem.W.Frag) : Sp := fun vs H Q _ => ∃ (F : Hp) (ns : List Int) (a : Addr), vs = [.ref a] ∧ SqL K H a (ns.map V.int) ∧ ns.length ≤ 1000 ∧ Le F H ∧ TabsC C F H ∧
  ∀ x y z F' H', H x = none → H y = none → H z = none → Stp C F H F' H' → TabsC C F' H' → StOk (CsS C x y z) F' (some (gs0 ns)) H' → Q (.ref x) H'
theorem ints_map : ∀ is : List Int, ints? (is.map D.int) = some is
  | [] => rfl
  | i :: is => by simp only [List.map_cons, ints?, ints_map is]
theorem own_ints {C : Cs} {F H : Hp} {v : V} {a : Addr} {is : List Int} (o : Own C F H v a (.lst (is.map D.int))) : H a = some (.lst (is.map V.int)) := by
  cases o.top with
  | lst h z r => rw [ints_of r (ints_map is)] at h; exact h
theorem st_made {C : Cs} {F H : Hp} {y z p : Addr} {vy vz : V} {cells lefts : List Int} (oy : Own C F H vy y (.lst (cells.map D.int))) (oz : Own C F H vz z (.lst (lefts.map D.int))) (hp : H p = some (.dK [])) (fp : F p = none) (n : y ≠ z) :
    StOk (CsS C p y z) F (some ⟨cells, lefts, 0⟩) (upd H p (.dK [(.inr "cells", .ref y), (.inr "lefts", .ref z), (.inr "at", .int 0)])) := by
  have hy := own_ints oy
  have hz := own_ints oz
  have py : p ≠ y := fun e => by rw [e, hy] at hp; cases hp
  have pz : p ≠ z := fun e => by rw [e, hz] at hp; cases hp
  exact ⟨upd_same, by rw [upd_ne py.symm]; exact hy, by rw [upd_ne pz.symm]; exact hz, py, pz, n, fp, oy.fr, oz.fr⟩
section
variable {X : Cx} {C : Cs} {W : WX}
/-- the display, its second part a new list -/
theorem ps_beginA {i : Nat} {x : Str} {e2 : Expr} {f2 : E} {j1 j2 j3 j4 : Nat} {q1 q2 q3 q4 q5 q6 q7 : Pos} (hN : X.N[i]? = some x) (hv : Vis X.env.scope x) (hd : (x == ("__debug__" : Str)) = false) (hcd : (x == ("__classdict__" : Str)) = false) (he : SE X C W e2 f2) :
    PS X (.Return (some (.Dict [some (.Constant (.str "cells") j1 q1), some (.Constant (.str "lefts") j2 q2), some (.Constant (.str "at") j3 q3)] [.Name x q4, e2, .Constant (.int 0) j4 q5] q6)) q7)
      (tRet (tDisp [(tC (.str "cells"), tVar i), (tC (.str "lefts"), tE C W f2), (tC (.str "at"), tC (.int 0))])) :=
  ps_ret (pe_disp (pps_cons pe_str (pe_var hN hv hd hcd) (pps_cons pe_str he (pps_cons pe_str pe_int pps_nil))) rfl rfl (by simp) (by simp))
theorem read_beginA {F0 H0 F H : Hp} {ρ : Ro} {g : G} {σ : L2.St} {i : Nat} {f2 : E} {cells lefts : List Int} {D' : Ends} (rel : Rel C F0 H0 F ρ g σ H) (hst : C.st = none) (hi : ρ[i]? = some (some (ow (.lst (cells.map D.int))))) (h2 : ∀ g, f2 ρ g = .ok (ow (.lst (lefts.map D.int))) g)
    (k : ∀ x y z F' H', H0 x = none → H0 y = none → H0 z = none → Stp C F0 H0 F' H' → TabsC C F' H' → StOk (CsS C x y z) F' (some ⟨cells, lefts, 0⟩) H' → D'.rt (.ref x) H') :
    tRet (tDisp [(tC (.str "cells"), tVar i), (tC (.str "lefts"), tE C W f2), (tC (.str "at"), tC (.int 0))]) D' σ H := by
  intro p hp
  obtain ⟨y, hs, oy, hy0⟩ := rel.own hi
  have q1 : Quiet C F H F (upd H p (.dK [])) := .newOw rel.stp.le hp
  have rel1 := rel.step (rel.after.quiet q1)
  refine ⟨.ref y, hs, F0, H0, F, ρ, g, rel1, ?_⟩
  rw [h2 g]
  intro v F1 H1 a1 r1
  obtain ⟨z, hz, oz⟩ : ∃ z, upd H p (.dK []) z = none ∧ Own C F1 H1 v z (.lst (lefts.map D.int)) := r1
  have rel2 := rel1.step a1
  have oy2 : Own C F1 H1 (.ref y) y (.lst (cells.map D.int)) := (oy.step q1.stp).step a1.stp
  have nst : ∀ a, ¬ InSt C a := fun a => by unfold InSt; rw [hst]; simp
  have hp1 : H1 p = some (.dK []) := a1.stp.keep p _ upd_same (nst p) (fun ps z => by cases z)
  have fp : F1 p = none := a1.stp.un (by rw [upd_same]; simp) (rel.stp.le.free hp) hp1 (fun _ z => by cases z)
  have nyz : y ≠ z := fun e => by
    have := own_ints (oy.step q1.stp)
    rw [e, hz] at this
    cases this
  have ev := oz.v
  subst ev
  refine ⟨hp1, [(.inr "cells", .ref y), (.inr "lefts", .ref z), (.inr "at", .int 0)], rfl, by simp, ?_⟩
  have none0 : ∀ a, H a = none → H0 a = none := fun a h => by
    cases q : H0 a with
    | none => rfl
    | some o => exact absurd h (rel.stp.there a (by rw [q]; simp))
  have hz0 : H0 z = none := none0 z (by
    by_cases e : z = p
    · subst e; rw [upd_same] at hz; cases hz
    · rw [upd_ne e] at hz; exact hz)
  show D'.rt (.ref p) (upd H1 p (.dK [(.inr "cells", .ref y), (.inr "lefts", .ref z), (.inr "at", .int 0)]))
  refine k p y z F1 _ (none0 p hp) hy0 hz0 ?_ (tabs_upd rel2.tabs hp1 trivial) (st_made oy2 oz hp1 fp nyz)
  refine ⟨rel2.stp.ff, fun a o h => ?_, fun a o h n t => ?_, fun a h => ?_, rel2.stp.priv⟩
  · rw [upd_ne (fun e => by subst e; rw [fp] at h; cases h)]; exact rel2.stp.le a o h
  · rw [upd_ne (fun e => by subst e; rw [none0 _ hp] at h; cases h)]; exact rel2.stp.keep a o h n t
  · by_cases e : a = p
    · subst e; rw [upd_same]; simp
    · rw [upd_ne e]; exact rel2.stp.there a h
/-- the display, both parts lists that stand -/
theorem ps_beginB {i j : Nat} {x y : Str} {j1 j2 j3 j4 : Nat} {q1 q2 q3 q4 q5 q6 q7 q8 : Pos} (hN : X.N[i]? = some x) (hv : Vis X.env.scope x) (hd : (x == ("__debug__" : Str)) = false) (hcd : (x == ("__classdict__" : Str)) = false)
    (hN2 : X.N[j]? = some y) (hv2 : Vis X.env.scope y) (hd2 : (y == ("__debug__" : Str)) = false) (hcd2 : (y == ("__classdict__" : Str)) = false) :
    PS X (.Return (some (.Dict [some (.Constant (.str "cells") j1 q1), some (.Constant (.str "lefts") j2 q2), some (.Constant (.str "at") j3 q3)] [.Name x q4, .Name y q8, .Constant (.int 0) j4 q5] q6)) q7)
      (tRet (tDisp [(tC (.str "cells"), tVar i), (tC (.str "lefts"), tVar j), (tC (.str "at"), tC (.int 0))])) :=
  ps_ret (pe_disp (pps_cons pe_str (pe_var hN hv hd hcd) (pps_cons pe_str (pe_var hN2 hv2 hd2 hcd2) (pps_cons pe_str pe_int pps_nil))) rfl rfl (by simp) (by simp))
theorem read_beginB {F0 H0 F H : Hp} {ρ : Ro} {g : G} {σ : L2.St} {i j : Nat} {cells lefts : List Int} {D' : Ends} (rel : Rel C F0 H0 F ρ g σ H) (hst : C.st = none) (hi : ρ[i]? = some (some (ow (.lst (cells.map D.int))))) (hj : ρ[j]? = some (some (ow (.lst (lefts.map D.int))))) (hij : i ≠ j)
    (k : ∀ x y z F' H', H0 x = none → H0 y = none → H0 z = none → Stp C F0 H0 F' H' → TabsC C F' H' → StOk (CsS C x y z) F' (some ⟨cells, lefts, 0⟩) H' → D'.rt (.ref x) H') :
    tRet (tDisp [(tC (.str "cells"), tVar i), (tC (.str "lefts"), tVar j), (tC (.str "at"), tC (.int 0))]) D' σ H := by
  intro p hp
  obtain ⟨y, hs, oy, hy0⟩ := rel.own hi
  obtain ⟨z, hsz, oz, hz0⟩ := rel.own hj
  have q1 : Quiet C F H F (upd H p (.dK [])) := .newOw rel.stp.le hp
  have rel1 := rel.step (rel.after.quiet q1)
  have nyz : y ≠ z := fun e => by
    subst e
    exact hij (rel.dis i j _ _ y hi hj rfl rfl hs hsz)
  refine ⟨.ref y, hs, .ref z, hsz, upd_same, [(.inr "cells", .ref y), (.inr "lefts", .ref z), (.inr "at", .int 0)], rfl, by simp, ?_⟩
  have none0 : ∀ a, H a = none → H0 a = none := fun a h => by
    cases q : H0 a with
    | none => rfl
    | some o => exact absurd h (rel.stp.there a (by rw [q]; simp))
  have fp : F p = none := rel.stp.le.free hp
  refine k p y z F _ (none0 p hp) hy0 hz0 ?_ (tabs_upd rel1.tabs upd_same trivial) (st_made (oy.step q1.stp) (oz.step q1.stp) upd_same fp nyz)
  refine ⟨rel1.stp.ff, fun a o h => ?_, fun a o h n t => ?_, fun a h => ?_, rel1.stp.priv⟩
  · rw [upd_ne (fun e => by subst e; rw [fp] at h; cases h)]; exact rel1.stp.le a o h
  · rw [upd_ne (fun e => by subst e; rw [none0 _ hp] at h; cases h)]; exact rel1.stp.keep a o h n t
  · by_cases e : a = p
    · subst e; rw [upd_same]; simp
    · rw [upd_ne e]; exact rel1.stp.there a h
end
/-! ### what the parts compute -/
theorem plain_ints (n : Nat) (is : List Int) : plainAt (n + 1) (.lst (is.map D.int)) = true := by
  simp only [plainAt, List.all_map, List.all_eq_true]
  intro i _
  cases n <;> rfl
def fCells : E := eIf (eBin oNe (eVar 0) (eLst [])) (eUn oList (eVar 0)) (eLst [eVal (.int 0)])
def fLeft (i : Nat) : E := eIf (eBin oGe (eVar i) (eBin oPow (eVal (.int 10)) (eVal (.int 18)))) (eVar i) (eVal (.int 0))
theorem cells_is (ns : List Int) (ρ : Ro) (g : G) (h : ρ[0]? = some (some (sh (.lst (ns.map D.int))))) : fCells ρ g = .ok (ow (.lst ((cells0 ns).map D.int))) g := by
  unfold fCells eIf eBin eUn eLst eVar
  rw [h]
  simp only [R.bind, eArgs, oNe]
  have p1 : plainAt DEEP (.lst (ns.map D.int)) = true := plain_ints 23 ns
  have p2 : plainAt DEEP (.lst []) = true := rfl
  rw [p1, p2]
  simp only [Bool.and_self, if_true]
  cases ns with
  | nil =>
    have e : eqAt DEEP (.lst (List.map D.int [])) (.lst []) = true := rfl
    rw [e]
    rfl
  | cons a r =>
    have e : eqAt DEEP (.lst (List.map D.int (a :: r))) (.lst []) = false := rfl
    rw [e]
    rfl
theorem left_is (i : Nat) (c : Int) (ρ : Ro) (g : G) (h : ρ[i]? = some (some (sh (.int c)))) : fLeft i ρ g = .ok (sh (.int (if (1000000000000000000 : Int) ≤ c then c else 0))) g := by
  unfold fLeft eIf eBin eVar eVal
  rw [h]
  have e : oPow (.int 10) (.int 18) = some (sh (.int 1000000000000000000)) := by
    show (if (0 : Int) ≤ 18 ∧ (18 : Int) ≤ 1000000 ∧ (10 : Int).natAbs < 2 ^ 64 then some (sh (.int ((10 : Int) ^ (18 : Int).toNat))) else none) = _
    rw [if_pos (by decide)]
    rfl
  simp only [R.bind, e, oGe]
  by_cases q : (1000000000000000000 : Int) ≤ c
  · rw [if_pos q, decide_eq_true q]
  · rw [if_neg q, decide_eq_false q]
theorem comp_is (i : Nat) (ρ : Ro) (hi : i < ρ.length) : ∀ (cs : List Int) (acc : List D) (g : G), compL (.v i) none (fLeft i) ρ (cs.map D.int) acc g = .ok (acc ++ (cs.map fun c => if (1000000000000000000 : Int) ≤ c then c else 0).map D.int) g
  | [], acc, g => by simp [compL]
  | c :: cs, acc, g => by
    rw [List.map_cons, compL]
    simp only [put_v]
    rw [left_is i c _ g (by rw [List.getElem?_set_self hi])]
    simp only
    rw [comp_is i ρ hi cs]
    simp
theorem lefts_is (i j : Nat) (cs : List Int) (ρ : Ro) (g : G) (hl : cs.length ≤ LIM) (hi : i < ρ.length) (h : ρ[j]? = some (some (ow (.lst (cs.map D.int))))) : eComp [i] (iSeqB (eVar j)) (.v i) none (fLeft i) ρ g = .ok (ow (.lst ((cs.map fun c => if (1000000000000000000 : Int) ≤ c then c else 0).map D.int))) g := by
  rw [eComp_0]
  unfold eComp0 iSeqB eVar
  rw [h]
  simp only [R.bind, List.length_map]
  rw [if_pos hl, comp_is i _ (by simp [wipeR, hi])]
  simp
/-! ### _law_begin -/
theorem sqL_new {K : PySem.W.Frag} {H : Hp} {a p : Addr} {o : HO} {xs : List V} (h : SqL K H a xs) (hp : H p = none) : SqL K (upd H p o) a xs := by
  rcases h with h | h
  · left
    have ne : ∀ u, H a = some u → a ≠ p := fun u e z => by subst z; rw [hp] at e; cases e
    rcases h with h | ⟨ob, h⟩
    · exact .inl (by rw [upd_ne (ne _ h)]; exact h)
    · exact .inr ⟨ob, by rw [upd_ne (ne _ h)]; exact h⟩
  · exact .inr h
theorem dp_ints {K : PySem.W.Frag} {H : Hp} : ∀ ns : List Int, DpAll K H (ns.map V.int) (ns.map PyData.int)
  | [] => .nil
  | n :: ns => .cons (.int n) (dp_ints ns)
theorem reps_ints {C : Cs} {F : Hp} : ∀ ns : List Int, Reps C F (ns.map V.int) (ns.map D.int)
  | [] => .nil
  | n :: ns => .cons (.int n) (reps_ints ns)
section
variable {X : Cx} {C : Cs} {W : WX}
def tCells (K : PySem.W.Frag) (r : R2) : TS := tAsg (tIf (tTest (tOp r (tVar 0) (tLst tNil))) (tCB (fun xs H Q => ∃ p ys, xs = [.ref p] ∧ (SqL K H p ys ∨ SqT K H p ys) ∧ ∀ l, H l = none → Q (.ref l) (upd H l (.lst ys))) (tCons (tVar 0) tNil)) (tLst (tCons (tC (.int 0)) tNil))) (gName 1)
theorem cells_read {K : PySem.W.Frag} {F H : Hp} {ρ : Ro} {σ : L2.St} {a : Addr} {ns : List Int} {D' : Ends} {r : R2} (hst : C.st = none) (rel : Rel C F H F ρ none σ H) (h0 : σ[0]? = some (some (.ref a))) (hS : SqL K H a (ns.map V.int)) (hlen : ns.length ≤ 1000)
    (hr : ∀ x y H Q, (∃ dx dy, Dp K H x dx ∧ Dp K H y dy ∧ SeqAt.shaped dx = true ∧ SeqAt.shaped dy = true ∧ Q (.bl (!PyData.eqv dx dy)) H) → r x y H Q)
    (k : ∀ σ' H', Rel C F H F (ρ.set 1 (some (ow (.lst ((cells0 ns).map D.int))))) none σ' H' → D'.nx σ' H') : tCells K r D' σ H := by
  have fin : ∀ (p y : Addr) (o : HO), H p = none → (∀ ps, o ≠ .tbl ps) → upd H p o y = none → D'.nx (σ.set 1 (some (.ref y))) (upd (upd H p o) y (.lst ((cells0 ns).map V.int))) := fun p y o hp ho hy => by
    have q1 : Quiet C F H F (upd H p o) := .newOw rel.stp.le hp
    have a1 := rel.after.quiet q1
    have q2 : Quiet C F (upd H p o) F (upd (upd H p o) y (.lst ((cells0 ns).map V.int))) := .newOw a1.stp.le hy
    have a2 := a1.quiet q2
    have nst : ∀ a, ¬ InSt C a := fun a => by unfold InSt; rw [hst]; simp
    have hcl : ((cells0 ns).map V.int).length ≤ sizeLine := by
      rw [List.length_map, sizeLine_eq]
      unfold cells0
      split
      · decide
      · omega
    refine k _ _ (rel.set a2 (v := .ref y) (b := ow (.lst ((cells0 ns).map D.int))) ⟨y, a1.none hy, rfl, a1.stp.le.free hy, nst y, .lst upd_same hcl (reps_ints _)⟩ (by simp) 1)
  have sh : SeqAt.shaped (PyData.list (ns.map PyData.int)) = true := by
    have := shaped_of (n := 1) (by omega) (d := .lst (ns.map D.int)) (plain_ints 0 ns)
    have e : ∀ l : List Int, pys (l.map D.int) = l.map PyData.int := fun l => by
      induction l with
      | nil => rfl
      | cons x l ih => simp only [List.map_cons, pys, ih, D.py]
    rw [show (D.lst (ns.map D.int)).py = PyData.list (ns.map PyData.int) by simp only [D.py, e]] at this
    exact this
  refine ⟨.ref a, h0, (by rw [sizeLine_eq]; decide : ([] : List V).length ≤ sizeLine), fun p hp => ?_⟩
  have hS1 := sqL_new (o := .lst []) hS hp
  refine hr _ _ _ _ ⟨.list (ns.map .int), .list [], .lst hS1 (dp_ints ns), .lst (SqL.of upd_same) .nil, sh, rfl, ?_⟩
  refine ⟨_, rfl, ?_⟩
  cases ns with
  | nil =>
    have e : (!PyData.eqv (.list (List.map PyData.int [])) (.list [])) = false := by decide +kernel
    rw [e]
    refine iteF ?_
    exact ⟨(by rw [sizeLine_eq]; decide : ([V.int 0] : List V).length ≤ sizeLine), fun y hy => fin p y _ hp (fun _ z => by cases z) hy⟩
  | cons n r =>
    have e : (!PyData.eqv (.list (List.map PyData.int (n :: r))) (.list [])) = true := rfl
    rw [e]
    refine iteT ?_
    refine ⟨.ref a, h0, a, _, rfl, .inl hS1, fun y hy => ?_⟩
    exact fin p y _ hp (fun _ z => by cases z) hy
/-- what is left of _law_begin behind its first statement -/
def RetOk (C : Cs) (n : Nat) (tr : TS) : Prop := ∀ (F H0 H : Hp) (σ : L2.St) (ns : List Int) (D' : Ends), ns.length ≤ 1000 → Rel C F H0 F ((List.replicate n none).set 1 (some (ow (.lst ((cells0 ns).map D.int))))) none σ H →
  (∀ x y z F' H', H0 x = none → H0 y = none → H0 z = none → Stp C F H0 F' H' → TabsC C F' H' → StOk (CsS C x y z) F' (some (gs0 ns)) H' → D'.rt (.ref x) H') → tr D' σ H
theorem cells_len {ns : List Int} (h : ns.length ≤ 1000) : (cells0 ns).length ≤ LIM := by
  unfold cells0 LIM
  split
  · decide
  · omega
theorem retA {W : WX} {n : Nat} (hst : C.st = none) (hn : 3 ≤ n) : RetOk C n (tRet (tDisp [(tC (.str "cells"), tVar 1), (tC (.str "lefts"), tE C W (eComp [2] (iSeqB (eVar 1)) (.v 2) none (fLeft 2))), (tC (.str "at"), tC (.int 0))])) := fun F H0 H σ ns D' hl rel k => by
  have g1 : ((List.replicate n (none : Option B)).set 1 (some (ow (.lst ((cells0 ns).map D.int)))))[1]? = some (some (ow (.lst ((cells0 ns).map D.int)))) := List.getElem?_set_self (by rw [List.length_replicate]; omega)
  exact read_beginA rel hst g1 (fun g => lefts_is 2 1 _ _ g (cells_len hl) (by rw [List.length_set, List.length_replicate]; omega) g1) k
theorem retB {W : WX} {n : Nat} (hst : C.st = none) (hn : 4 ≤ n) : RetOk C n (tSeq (tS C W (sAsg 2 (eComp [3] (iSeqB (eVar 1)) (.v 3) none (fLeft 3)))) (tRet (tDisp [(tC (.str "cells"), tVar 1), (tC (.str "lefts"), tVar 2), (tC (.str "at"), tC (.int 0))]))) := fun F H0 H σ ns D' hl rel k => by
  have g1 : ((List.replicate n (none : Option B)).set 1 (some (ow (.lst ((cells0 ns).map D.int)))))[1]? = some (some (ow (.lst ((cells0 ns).map D.int)))) := List.getElem?_set_self (by rw [List.length_replicate]; omega)
  refine ⟨F, H0, F, _, none, rel, ?_⟩
  rw [sAsg_0]
  unfold sAsg0
  rw [lefts_is 3 1 _ _ none (cells_len hl) (by rw [List.length_set, List.length_replicate]; omega) g1]
  intro σ1 F1 H1 l1 rel1
  have g2 := g1
  refine read_beginB (i := 1) (j := 2) rel1 hst (by rw [List.getElem?_set_ne (by decide)]; exact g1) (List.getElem?_set_self (by rw [List.length_set, List.length_replicate]; omega)) (by decide) k
end
section
variable {P : Program} {w : World} {K : PySem.W.Frag} {mg : Str → Option Value} {base : Heap} {C : Cs}
theorem rel_none {n : Nat} {F H : Hp} {σ : L2.St} (hent : C.ent = none) (hst : C.st = none) (l : Le F H) (tb : TabsC C F H) (hl : σ.length = n) : Rel C F H F (List.replicate n none) none σ H := by
  have nope : ∀ (i : Nat) (b : B), (List.replicate n (none : Option B))[i]? = some (some b) → False := fun i b h => by
    rw [List.getElem?_replicate] at h
    split at h <;> cases h
  refine ⟨.refl l, ?_, tb, by rw [List.length_replicate]; exact hl.symm, fun i b h => (nope i b h).elim, fun i j bi bj a h => (nope i bi h).elim, fun p z => ?_⟩
  · unfold StOk; rw [hst]; trivial
  · rw [hent] at z; cases z
theorem begin_fn {x qual : Str} {st : Stmt} {f : Addr} {fd : FuncData} {N : List Str} {a : Str} {k : Nat} (hst : C.st = none) (hent : C.ent = none) (Fd : FunD K x qual (defArgs st) (defBody st) (defScope st) [] [] f fd) (Sc : FnScope N [a] (defScope st)) (hN : 0 < N.length)
    (hb : ∀ (cdv : Value) (A : Around) (outer : List Env) (s : Shared) (H : Hp) (E : XK), Room k (A.deeper (envOfC qual (defScope st) s.heap.objs.size f cdv)) →
      ∃ r tr, PSs (cxOf (L2.CX P w) P w K mg base N qual (defScope st) f cdv A outer s H E) (defBody st) (tSeq (tCells K r) tr) ∧ (∀ x y H Q, (∃ dx dy, Dp K H x dx ∧ Dp K H y dy ∧ SeqAt.shaped dx = true ∧ SeqAt.shaped dy = true ∧ Q (.bl (!PyData.eqv dx dy)) H) → r x y H Q) ∧ RetOk C N.length tr) :
    FnOk P w K mg base (L2.CX P w) (k + 1) f fd [a] (spBegin C K) := by
  refine Fd.ok Sc (fun vs H Q E h => ?_) fun cdv A outer s H vs Q E hr h => ?_
  · obtain ⟨F, ns, a, rfl, _⟩ := h
    rfl
  · obtain ⟨r, tr, h1, h2, h3⟩ := hb cdv A outer s H E hr
    refine ⟨_, h1, ?_⟩
    obtain ⟨F, ns, a0, rfl, hS, hl, l, tb, q⟩ := h
    have hlen : (L2.start N [V.ref a0]).length = N.length := by
      unfold L2.start
      rw [List.length_append, List.length_map, List.length_replicate]
      simp only [List.length_cons, List.length_nil]
      omega
    refine cells_read (C := C) (ρ := List.replicate N.length none) hst (rel_none hent hst l tb hlen) (by simp [L2.start]) hS hl h2 fun σ' H' rel => ?_
    exact h3 F H H' σ' ns _ hl rel q
end
end Sx

set_option Elab.async false
set_option linter.all false
set_option maxRecDepth 100000
set_option maxHeartbeats 4000000
/-! Sx16: the law's def, the end. -/
namespace Sx
open PySem PySem.Spec PyProof.Rows L2
section
variable {P : Program} {w : World} {K : PySem.W.Frag} {mg : Str → Option Value} {base : Heap} {C : Cs}
/-- a def by a reading of its body -/
theorem fng_body {sp : Sp} {x qual : Str} {st : Stmt} {f : Addr} {fd : FuncData} {N ps : List Str} {k : Nat} (Fd : FunD K x qual (defArgs st) (defBody st) (defScope st) [] [] f fd) (Sc : FnScope N ps (defScope st)) (len : ∀ vs H Q E, sp vs H Q E → vs.length = ps.length)
    (hb : ∀ (A : Around) (outer : List Env) (s : Shared) (H : Hp) (vs : List V) (Q : VK) (E : XK), Room k (A.deeper (envOfC qual (defScope st) s.heap.objs.size f (.ref (codeAt K f)))) → (A.deeper (envOfC qual (defScope st) s.heap.objs.size f (.ref (codeAt K f)))).guards = some [] → sp vs H Q E →
      ∃ t, PSs (cxOf (L2.CX P w) P w K mg base N qual (defScope st) f (.ref (codeAt K f)) A outer s H E) (defBody st) t ∧ t { nx := fun _ H' => Q .non H', rt := Q } (L2.start N vs) H) : FnG P w K mg base (k + 1) f fd ps sp := by
  obtain ⟨oc, od, dV, kV, doc, pm, an, cdv, ct, osl, rfl, lk, hcd, -, -⟩ := Fd.ex
  obtain rfl := codeAt_eq lk hcd
  exact ⟨len, fun A outer s H args us vs Q E hr hgd e0 bound r hsp => LamX.run_ofS lk hcd Sc hr e0 bound r (len _ _ _ _ hsp) fun hr' => hb A outer s H vs Q E hr' hgd hsp⟩
theorem FnG.of {k : Nat} {f : Addr} {fd : FuncData} {ps : List Str} {sp : Sp} (F : FnOk P w K mg base (L2.CX P w) k f fd ps sp) : FnG P w K mg base k f fd ps sp :=
  ⟨F.len, fun A outer s H args us vs Q E hr _ e0 b r h => F.run A outer s H args us vs Q E hr e0 b r h⟩
/-! ### the law's body -/
/-- the slots behind the first statement -/
def roL (n : Nat) : Ro := (List.replicate n none).set 1 (some (sh .st))
def mLaw (n : Nat) (s : S) (ns : List Int) : R B := ends (s (roL n) (some (gs0 ns)))
def spLaw (C : Cs) (K : PySem.W.Frag) (m : List Int → R B) : Sp := fun vs H Q _ => ∃ (ns : List Int) (a : Addr) (g' : G), vs = [.ref a] ∧ SqL K H a (ns.map V.int) ∧ ns.length ≤ 1000 ∧ LamX.Tabs C.T H ∧ m ns = .ok (sh (.bl true)) g' ∧ ∀ H', Q (.bl true) H'
theorem law_rest {X : Cx} {W : WX} {rest : List Stmt} {s : S} (h : ∀ x y z, SSs X (CsS C x y z) W rest s) : PSs X rest fun D σ H => ∃ x y z, tS (CsS C x y z) W s D σ H :=
  ⟨fun pins s0 σ H D I ⟨x, y, z, t⟩ => (h x y z).run pins s0 σ H D I t⟩
theorem law_fn {x qual : Str} {st : Stmt} {f fb : Addr} {fd fdb : FuncData} {N : List Str} {a sv bx : Str} {k : Nat} {s : S} {rest : List Stmt} {p1 p2 p3 p4 p5 : Pos} (hst : C.st = none) (hent : C.ent = none) (hcod : C.codes = [])
    (Fd : FunD K x qual (defArgs st) (defBody st) (defScope st) [] [] f fd) (Sc : FnScope N [a] (defScope st)) (hN0 : N[0]? = some a) (hN1 : N[1]? = some sv) (hn : 1 < N.length)
    (hbody : defBody st = .Assign [.Name sv p1] (.Call (.Name bx p2) [.Name a p3] [] p4) p5 :: rest) (hva : Vis (defScope st) a) (hvs : (defScope st).names.lookup sv = some .local) (hd : (a == ("__debug__" : Str)) = false) (hcd : (a == ("__classdict__" : Str)) = false) (hdb : (bx == ("__debug__" : Str)) = false)
    (hsw : ∀ env, swapsWith (.Call (.Name bx p2) [.Name a p3] [] p4) (some (.Name sv p1)) p5.line env = pure false)
    (Fb : FnOk P w K mg base (L2.CX P w) k fb fdb [a] (spBegin C K)) (hgb : (defScope st).names.lookup bx = some .globalImplicit) (hmb : mg bx = some (.ref fb)) (hkb : PySem.W.keepIn K (.ref fb) = true) (hbb : Binds K fdb [a] [])
    (hrest : ∀ (A : Around) (outer : List Env) (s0 : Shared) (H : Hp) (E : XK) (x y z : Addr), Room k (A.deeper (envOfC qual (defScope st) s0.heap.objs.size f (.ref (codeAt K f)))) → (A.deeper (envOfC qual (defScope st) s0.heap.objs.size f (.ref (codeAt K f)))).guards = some [] →
      SSs (cxOf (L2.CX P w) P w K mg base N qual (defScope st) f (.ref (codeAt K f)) A outer s0 H E) (CsS C x y z) (fun cls d _ H => E cls d H) rest s) :
    FnG P w K mg base (k + 1) f fd [a] (spLaw C K (mLaw N.length s)) := by
  refine fng_body Fd Sc (fun vs H Q E h => ?_) fun A outer s0 H vs Q E hr hgd h => ?_
  · obtain ⟨ns, a, g', rfl, _⟩ := h
    rfl
  obtain ⟨ns, ad, g', rfl, hS, hl, htb, hm, hq⟩ := h
  rw [hbody]
  have tk : Takes (cxOf (L2.CX P w) P w K mg base N qual (defScope st) f (.ref (codeAt K f)) A outer s0 H E) (fun cls d _ H => E cls d H) := takes_of rfl rfl rfl rfl
  have call : PE (cxOf (L2.CX P w) P w K mg base N qual (defScope st) f (.ref (codeAt K f)) A outer s0 H E) (.Call (.Name bx p2) [.Name a p3] [] p4) (fun σ H' Q' => (tCons (tVar 0) tNil) σ H' fun vs H1 => spBegin C K vs H1 Q' (WE (fun cls d _ H => E cls d H) σ)) := by
    refine ⟨fun pins s σ H' Q' I h => ?_⟩
    refine wpAny_Call_Name_kw (ld_glob I hgb hmb ?_ hdb)
    refine PySem.W.callWith_K (h₀ := base) I.ok.mod.kin hkb (thn ((pa_cons (pe_var (i := 0) hN0 hva hd hcd) pa_nil rfl).run p4 pins s σ H' _ I h) fun us s1 got => ?_) rfl rfl
    obtain ⟨vs, H1, I1, r, q⟩ := got
    exact ⟨I1.kIn, run_own (X := cxOf (L2.CX P w) P w K mg base N qual (defScope st) f (.ref (codeAt K f)) A outer s0 H E) (E := WE fun cls d _ H => E cls d H) (FnG.of Fb) hr hgd hbb (passAt tk σ) I1 r q⟩
  refine ⟨_, pss_cons (ps_set (i := 1) Sc.nd hN1 (.inl hvs) call (hsw _) (.inr hvs)) (law_rest fun x y z => hrest A outer s0 H E x y z hr hgd), ?_⟩
  refine ⟨.ref ad, by simp [L2.start], (fun _ => none), ns, ad, rfl, hS, hl, (fun _ _ z => by cases z), ⟨htb, (fun p hp => by rw [hcod] at hp; cases hp), fun _ _ z => by cases z⟩, fun x y z F' H' hx hy hz stp tb sto => ?_⟩
  refine ⟨x, y, z, (fun _ => none), H, F', roL N.length, some (gs0 ns), ?_, ?_⟩
  · have nst : ∀ a, ¬ InSt C a := fun a => by unfold InSt; rw [hst]; simp
    refine ⟨⟨stp.ff, stp.le, fun a o h n t => stp.keep a o h (nst a) t, stp.there, stp.priv⟩, sto, ⟨tb.1, tb.2, tb.3⟩, ?_, fun i b h => ?_, fun i j bi bj c hi hj ti tj _ _ => ?_, fun pq zq => ?_⟩
    · unfold roL L2.start
      simp only [List.length_set, List.length_replicate, List.length_append, List.length_map, List.length_cons, List.length_nil]
      omega
    · unfold roL at h
      by_cases e : 1 = i
      · subst e
        rw [List.getElem?_set_self (by rw [List.length_replicate]; exact hn)] at h
        cases h
        refine ⟨.ref x, List.getElem?_set_self (by unfold L2.start; simp only [List.length_replicate, List.length_append, List.length_map, List.length_cons, List.length_nil]; omega), ?_⟩
        exact Rep.st rfl
      · rw [List.getElem?_set_ne e, List.getElem?_replicate] at h
        split at h <;> cases h
    · unfold roL at hi
      by_cases e : 1 = i
      · subst e
        rw [List.getElem?_set_self (by rw [List.length_replicate]; exact hn)] at hi
        cases hi
        cases ti
      · rw [List.getElem?_set_ne e, List.getElem?_replicate] at hi
        split at hi <;> cases hi
    · rw [show (CsS C x y z).ent = C.ent from rfl, hent] at zq
      cases zq
  · unfold mLaw at hm
    cases q : s (roL N.length) (some (gs0 ns)) with
    | nx ρ g => rw [q] at hm; cases hm
    | rt b g =>
      rw [q] at hm
      cases hm
      intro v F1 H1 a1 r1
      have r1 : Rep (CsS C x y z) F1 v (.bl true) := r1
      cases r1
      exact hq H1
    | er x ρ g => rw [q] at hm; cases hm
    | bk ρ g => rw [q] at hm; cases hm
    | ct ρ g => rw [q] at hm; cases hm
    | no => rw [q] at hm; cases hm
end
/-! ### the end -/
section
variable {P : Program} {w : World} {K : PySem.W.Frag} {mg mb : Str → Option Value} {s₁ : Shared} {a : Addr} {vs : List Value} {ns : List Int} {tabs : List Addr}
/-- what is followed at the law's call: the script, unless it is a written part, and the tables, empty -/
def H1st (K : PySem.W.Frag) (a : Addr) (vs : List Value) (ns : List Int) (tabs : List Addr) : Hp := fun b =>
  if b ∈ tabs then some (.tbl #[]) else if b = a ∧ K.lookup a = none then some (.frz { cls := .type "list", data := .seq vs.toArray } (.lst (ns.map V.int))) else none
structure AtEnd (K : PySem.W.Frag) (s₁ : Shared) (a : Addr) (vs : List Value) (ns : List Int) (tabs : List Addr) : Prop where
  kin : K.In s₁.heap
  scr : s₁.heap.get? a = some { cls := .type "list", data := .seq vs.toArray }
  intz : IntsAre vs ns
  len : ns.length ≤ sizeLine
  emp : ∀ b ∈ tabs, s₁.heap.get? b = some { cls := .none, data := .fields #[] }
  out : ∀ b ∈ tabs, K.lookup b = none
namespace AtEnd
variable (T : AtEnd K s₁ a vs ns tabs)
include T
theorem apart : a ∉ tabs := fun h => by
  have e := T.emp a h
  rw [T.scr] at e
  cases congrArg Obj.data (Option.some.inj e)
theorem tracked {b : Addr} {u : HO} (h : H1st K a vs ns tabs b = some u) : (b ∈ tabs ∧ u = .tbl #[]) ∨ (b = a ∧ K.lookup a = none ∧ u = .frz { cls := .type "list", data := .seq vs.toArray } (.lst (ns.map V.int))) := by
  unfold H1st at h
  split at h
  · rename_i m
    exact .inl ⟨m, (Option.some.inj h).symm⟩
  · split at h
    · rename_i m
      exact .inr ⟨m.1, m.2, (Option.some.inj h).symm⟩
    · cases h
/-- an object that is neither a list nor an empty table is not followed -/
theorem loose {b : Addr} {o : Obj} (e : s₁.heap.get? b = some o) (nl : ∀ its n, o.data ≠ .seq its n) (nt : o.data ≠ .fields #[]) : H1st K a vs ns tabs b = none := by
  cases q : H1st K a vs ns tabs b with
  | none => rfl
  | some u =>
    rcases T.tracked q with ⟨m, _⟩ | ⟨rfl, _, _⟩
    · rw [T.emp b m] at e
      cases e
      exact absurd rfl nt
    · rw [T.scr] at e
      cases e
      exact absurd rfl (nl _ _)
theorem written {b : Addr} {o : Obj} (e : K.lookup b = some o) : H1st K a vs ns tabs b = none := by
  cases q : H1st K a vs ns tabs b with
  | none => rfl
  | some u =>
    rcases T.tracked q with ⟨m, _⟩ | ⟨rfl, n, _⟩
    · rw [T.out b m] at e; cases e
    · rw [n] at e; cases e
theorem ns_of {b : Addr} {m : Str → Option Value} (h : s₁.heap.Ns b m) : (hidT s₁.heap (H1st K a vs ns tabs)).Ns b m := by
  obtain ⟨o, es, ep, e, d, r⟩ := h
  exact ⟨o, es, ep, hidT_get e (T.loose e (fun _ _ z => by rw [d] at z; cases z) (fun z => by rw [d] at z; cases z)), d, r⟩
theorem sq : SqL K (H1st K a vs ns tabs) a (ns.map V.int) := by
  cases q : K.lookup a with
  | none =>
    refine .inl (.inr ⟨{ cls := .type "list", data := .seq vs.toArray }, ?_⟩)
    unfold H1st
    rw [if_neg T.apart, if_pos ⟨rfl, q⟩]
  | some o =>
    have e := T.kin a o q
    rw [T.scr] at e
    cases e
    exact .inr ⟨_, vs.toArray, _, q, rfl, rfl, rfl, by rw [List.size_toArray, T.intz.length]; exact T.len, by simpa using vals_ints T.intz⟩
theorem ok : HOk P w (H1st K a vs ns tabs) s₁.heap := fun b u h => by
  rcases T.tracked h with ⟨m, rfl⟩ | ⟨rfl, _, rfl⟩
  · exact T.emp b m
  · exact ⟨T.scr, by rw [List.length_map]; exact T.len, vs, _, vals_ints T.intz, T.scr⟩
end AtEnd
/-- the law called at the head's end -/
theorem law_end {k : Nat} {fa : Addr} {cs : List (Addr × Addr)} {fd : FuncData} {x : Str} {sp : Sp} (T : AtEnd K s₁ a vs ns (cs.map (·.2))) (gl : s₁.heap.Ns mainGlobals mg) (bl : s₁.heap.Ns builtinsNs mb) (bb : ∀ x : Str, x ≠ "__name__" → mb x = bootBuiltins x) (nl : s₁.heap.NoLimit) (gens : s₁.gens = #[])
    (cds : ∀ p ∈ cs, PySem.W.CodeHd s₁.heap p.1 p.2) (bmod : ∃ (bm : Addr) (ob : Obj), mg "__builtins__" = some (.ref bm) ∧ bm ≠ builtinsNs ∧ s₁.heap.get? bm = some ob ∧ ob.cls = .type "module" ∧ ob.dict = some builtinsNs ∧ ob.data = .plain)
    (room : Room k callerA) (F : ∀ base : Heap, K.In base → base.Ns mainGlobals mg → (∀ p ∈ cs, LamX.TabB base mg p.1 p.2) → FnG P w K mg base k fa fd [x] sp) (hb : ∀ (s : Shared) (u : Value), BindsTo s fd ⟨[u], []⟩ [(x, u)])
    (hsp : ∀ H : Hp, (∀ p ∈ cs, H p.2 = some (.tbl #[])) → SqL K H a (ns.map V.int) → sp [.ref a] H (fun v _ => v = .bl true) fun _ _ _ => False) :
    codeAny (model P w) callerA (.call (.ref fa) ⟨[.ref a], []⟩) (fun r s' => r = .ok (.ret (.bool true)) ∧ OldK s₁.heap s'.heap ∧ s'.os = s₁.os ∧ AllBare s'.gens) s₁ := by
  have put : ∀ {b : Addr} {o : Obj}, s₁.heap.get? b = some o → H1st K a vs ns (cs.map (·.2)) b = none → (hidT s₁.heap (H1st K a vs ns (cs.map (·.2)))).get? b = some o := fun e n => hidT_get e n
  have kin : K.In (hidT s₁.heap (H1st K a vs ns (cs.map (·.2)))) := fun b o e => put (T.kin b o e) (T.written e)
  have memT : ∀ p ∈ cs, p.2 ∈ cs.map (·.2) := fun p hp => List.mem_map_of_mem hp
  have tab : ∀ p ∈ cs, H1st K a vs ns (cs.map (·.2)) p.2 = some (.tbl #[]) := fun p hp => if_pos (memT p hp)
  have md : L2.Mod K mg (hidT s₁.heap (H1st K a vs ns (cs.map (·.2)))) := ⟨kin, T.ns_of gl, ⟨mb, T.ns_of bl, bb⟩, by
    obtain ⟨mc, h1, h2⟩ := nl
    exact ⟨mc, T.ns_of h1, h2⟩⟩
  have tb : ∀ p ∈ cs, LamX.TabB (hidT s₁.heap (H1st K a vs ns (cs.map (·.2)))) mg p.1 p.2 := fun p hp => by
    have here := T.emp p.2 (memT p hp)
    constructor
    · obtain ⟨o, us, file, tf, flags, tg, inF, text, tt, e1, r1, r2, r3, rest⟩ := cds p hp
      refine ⟨o, us, file, tf, flags, tg, inF, text, tt, put e1 (T.loose e1 (fun _ _ z => by rw [r2] at z; cases z) fun z => ?_), r1, r2, r3, rest⟩
      rw [r2] at z
      cases z
      simp at r3
    · obtain ⟨bm, ob, b1, b2, b3, b4, b5, b6⟩ := bmod
      refine ⟨bm, ob, b1, b2, fun q => ?_, fun q => ?_, put b3 (T.loose b3 (fun _ _ z => by rw [b6] at z; cases z) fun z => by rw [b6] at z; cases z), b4, b5, b6⟩
      · obtain ⟨o, es, ep, e, d, _⟩ := gl
        rw [q, e] at b3
        cases b3
        rw [d] at b6
        cases b6
      · rw [q, here] at b3
        cases b3
        cases b6
    · intro z
      obtain ⟨o, es, ep, e, d, _⟩ := gl
      rw [z, here] at e
      cases e
      cases d
  have env : Env0 P w K mg (hidT s₁.heap (H1st K a vs ns (cs.map (·.2)))) callerA [] s₁ (H1st K a vs ns (cs.map (·.2))) := ⟨rfl, md, fun b o e => of_hidT e, Nat.le_of_eq (hidT_size _ _), trivial, fun b hb => (List.not_mem_nil hb).elim, T.ok, .of_eq gens⟩
  have run := (F _ kin (T.ns_of gl) tb).run callerA [] s₁ _ ⟨[.ref a], []⟩ [.ref a] [.ref a] _ _ room rfl env (hb s₁ (.ref a)) (.cons rfl .nil) (hsp _ tab T.sq)
  refine codeAny_mono run fun r s' got => ?_
  match r, got with
  | .error e, got => obtain ⟨_, _, _, _, _, _, _, _, _, _, _, _, z⟩ := got; exact z.elim
  | .ok (.ret u), got =>
    obtain ⟨v, H', os, bare, un, ok', ru, rfl⟩ := got
    obtain rfl : u = Value.bool true := ru
    have kept : ∀ b o, b ∉ cs.map (·.2) → s₁.heap.get? b = some o → s'.heap.get? b = some o := fun b o nb e => by
      cases q : H1st K a vs ns (cs.map (·.2)) b with
      | none => exact un.keep b o e q (List.not_mem_nil) (List.not_mem_nil)
      | some u =>
        rcases T.tracked q with ⟨m, _⟩ | ⟨rfl, _, rfl⟩
        · exact absurd m nb
        · have now := (ok' _ _ (un.frzs _ _ _ q)).1
          rw [T.scr] at e
          cases e
          exact now
    have grown : ∀ p ∈ cs, ∃ more : Array Value, s'.heap.get? p.2 = some { cls := .none, data := .fields more } := fun p hp => by
      obtain ⟨more, z⟩ := un.tbls p.2 #[] (tab p hp)
      exact ⟨_, ok' p.2 _ z⟩
    refine ⟨rfl, ⟨fun b o e => ?_, fun b o e => ?_⟩, os, bare⟩
    · by_cases hbt : b ∈ cs.map (·.2)
      · obtain ⟨p, hp, rfl⟩ := List.mem_map.mp hbt
        obtain ⟨more, hm⟩ := grown p hp
        have here := T.emp p.2 hbt
        rw [here] at e
        cases e
        exact .inr (.inl ⟨((cds p hp).tab here).isCodeTable, rfl, #[], more, rfl, by rw [Array.empty_append]; exact hm⟩)
      · exact .inl (kept b o hbt e)
    · by_cases hbt : b ∈ cs.map (·.2)
      · obtain ⟨p, hp, rfl⟩ := List.mem_map.mp hbt
        obtain ⟨more, hm⟩ := grown p hp
        exact ⟨_, hm⟩
      · exact ⟨o, kept b o hbt e⟩
end
/-- what is known of the law's def at the head's heap h -/
def LawAtG (l : PySem.W.OpenLaw) (w : World) (K : PySem.W.Frag) (k n : Nat) (x : Str) (mg : Str → Option Value) (fa : Addr) (h : Heap) : Prop :=
  ∃ (fd : FuncData) (cs : List (Addr × Addr)) (sp : Sp), (∀ p ∈ cs, h.get? p.2 = some { cls := .none, data := .fields #[] }) ∧ (∀ p ∈ cs, K.lookup p.2 = none) ∧ (∀ p ∈ cs, PySem.W.CodeHd h p.1 p.2) ∧ (∀ (s : Shared) (u : Value), BindsTo s fd ⟨[u], []⟩ [(x, u)]) ∧
    (∀ (H : Hp) (a : Addr) (ns : List Int), ns.length ≤ n → (∀ p ∈ cs, H p.2 = some (.tbl #[])) → SqL K H a (ns.map V.int) → sp [.ref a] H (fun v _ => v = .bl true) fun _ _ _ => False) ∧
    ∀ base : Heap, K.In base → base.Ns mainGlobals mg → (∀ p ∈ cs, LamX.TabB base mg p.1 p.2) → FnG l.prog w K mg base k fa fd [x] sp
theorem walk_G {l : PySem.W.OpenLaw} {n k : Nat} {q : Program} {loose : List Str} {XP : (Str → Option Value) → Heap → Prop} {YP : World → Heap → Prop} {d : DefRec} {x : Str} (hn : l.most = some n) (hn2 : n ≤ sizeLine) (hdf : d.params.defaults = []) (room : Room k callerA)
    (F : ∀ (w : World) (mg : Str → Option Value) (fa : Addr) (h : Heap), YP w h → h.Ns mainGlobals mg → mg d.name = some (.ref fa) → ∃ K : PySem.W.Frag, K.In h ∧ LawAtG l w K k n x mg fa h) : PySem.W.WalkO q loose XP YP l.row.toRowW d [] (fun f vs => PySem.call f vs) := by
  refine Att.attach_callB hn hdf fun w s₀ s₁ mg mb fa o pm cd doc a vs ns G Y ho hd hcd hmg hobj hints hlen hbits hg => ?_
  obtain ⟨K, KX, fd, cs, sp, emp, out, cds, hb, hsp, hF⟩ := F w mg fa _ Y G.T.g hmg
  have isT : ∀ b ∈ cs.map (·.2), ∃ p ∈ cs, p.2 = b := fun b hb => List.mem_map.mp hb
  exact law_end ⟨KX, hobj, hints, Nat.le_trans hlen hn2, fun b h => by
    obtain ⟨p, hp, rfl⟩ := isT b h
    exact emp p hp, fun b h => by
    obtain ⟨p, hp, rfl⟩ := isT b h
    exact out p hp⟩ G.T.g G.T.b G.T.builtins G.T.nolimit hg cds G.T.bmain room hF hb fun H hH hS => hsp H a ns hlen hH hS
end Sx

set_option Elab.async false
set_option linter.all false
set_option maxRecDepth 100000
set_option maxHeartbeats 4000000
/-! Sx17: x.index(e), max of three, calls by keywords. -/
namespace Sx
open PySem PySem.Spec PyProof.Rows L2
def oMax3 (x y z : D) : Option B := match x, y, z with
  | .int i, .int j, .int k => some (sh (.int (let m := if j > i then j else i; if k > m then k else m)))
  | _, _, _ => none
def eTri (o : D → D → D → Option B) (f h k : E) : E := fun ρ g => (f ρ g).bind fun x g1 => (h ρ g1).bind fun y g2 => (k ρ g2).bind fun z g3 => match o x.d y.d z.d with | some b => .ok b g3 | none => .no
def oIndex (ds : List D) (y : D) : Option B := if plainAt DEEP (.lst ds) && plainAt DEEP y then (match ds.findIdx? (fun z => eqAt DEEP z y) with | some j => some (sh (.int (j : Nat))) | none => none) else none
def eIndex (i : Nat) (f : E) : E := fun ρ g => (eVar i ρ g).bind fun x g1 => match x.d with
  | .lst ds => (f ρ g1).bind fun y g2 => match oIndex ds y.d with | some b => .ok b g2 | none => .no
  | _ => .no
section
variable {X : Cx} {C : Cs} {W : WX} {pos : Pos}
theorem se_max3 {a b c : Expr} {f h k : E} {p : Pos} (hc : X.calm = true) (hg : Gl X "max") (hm : X.mg "max" = none) (ha : SE X C W a f) (hb : SE X C W b h) (hcc : SE X C W c k)
    (h1 : starEach [a, b, c] X.env = (false, eval a X.env) :: starEach [b, c] X.env := by rfl) (h2 : starEach [b, c] X.env = (false, eval b X.env) :: starEach [c] X.env := by rfl) (h3 : starEach [c] X.env = (false, eval c X.env) :: starEach [] X.env := by rfl)
    (hpl : (backTo pos (starEach [b, c] X.env)).any (·.1) = false := by rfl) : SE X C W (.Call (.Name "max" p) [a, b, c] [] pos) (eTri oMax3 f h k) := by
  refine pe_imp (pe_callB (call_max3Nu hc) hg hm (by decide +kernel) (pa_cons ha (pa_cons hb (pa_cons hcc pa_nil h3) h2) h1) (by decide) (by decide) h1 hpl) ?_
  rintro σ H Q ⟨F0, H0, F, ρ, g, rel, hh⟩
  unfold eTri at hh
  rw [onOk_bind] at hh
  refine ⟨F0, H0, F, ρ, g, rel, onOk_mono hh (fun x g1 h1 u F1 H1 a1 r1 => ?_) fun x g1 h1 => h1⟩
  rw [onOk_bind] at h1
  have rel1 := rel.step a1
  refine ⟨F0, H0, F1, ρ, g1, rel1, onOk_mono h1 (fun y g2 h2 v F2 H2 a2 r2 => ?_) fun x g2 h2 cls d F2 H2 a2 e2 => h2 cls d F2 H2 (a1.trans a2) e2⟩
  rw [onOk_bind] at h2
  have rel2 := rel1.step a2
  refine ⟨F0, H0, F2, ρ, g2, rel2, onOk_mono h2 (fun z g3 h3 w F3 H3 a3 r3 => ?_) fun x g3 h3 cls d F3 H3 a3 e3 => h3 cls d F3 H3 ((a1.trans a2).trans a3) e3⟩
  cases ex : x.d <;> cases ey : y.d <;> cases ez : z.d <;> (rw [ex, ey, ez] at h3) <;> try exact h3.elim
  rename_i i j k
  have q1 := r1.ro
  have q2 := r2.ro
  have q3 := r3.ro
  rw [ex] at q1
  rw [ey] at q2
  rw [ez] at q3
  rw [ro_int q1, ro_int q2, ro_int q3]
  refine ⟨.int i, .int j, .int k, .int (let m := if j > i then j else i; if k > m then k else m), rfl, ?_, h3 _ F3 H3 ((a1.trans a2).trans a3) (.int _)⟩
  have e2 : ∀ a b : Int, nuMax2 (.int a) (.int b) = some (.int (if b > a then b else a)) := fun a b => by
    have : nuLt (.int a) (.int b) = some (decide (a < b)) := rfl
    unfold nuMax2
    rw [this, Option.map_some]
    by_cases q : a < b
    · rw [if_pos (decide_eq_true q), if_pos q]
    · rw [if_neg (by simpa using q), if_neg q]
  unfold nuMax3
  rw [e2, Option.bind_some, e2]
theorem dps {K : PySem.W.Frag} {F H : Hp} {x : V} {ds : List D} (l : Le F H) (p : plainAt DEEP (.lst ds) = true) (r : RO C F H x (.lst ds)) : Dp K H x (.list (pys ds)) := dp_ro l p r
theorem pys_get : ∀ (ds : List D) (j : Nat), (pys ds)[j]? = (ds[j]?).map D.py
  | [], j => by simp [pys]
  | d :: ds, 0 => by simp [pys]
  | d :: ds, j + 1 => by simp [pys, pys_get ds j]
theorem all_get {n : Nat} {ds : List D} (p : ds.all (plainAt n) = true) {j : Nat} {d : D} (h : ds[j]? = some d) : plainAt n d = true := List.all_eq_true.mp p d (List.mem_of_getElem? h)
/-- x.index(e), x a variable -/
theorem se_index {i : Nat} {x : Str} {p apos : Pos} {e : Expr} {f : E} (hu : X.A.units + 65 < cLine) (he : SE X C W e f) (hN : X.N[i]? = some x := by rfl) (hv : Vis X.env.scope x := by first | exact Or.inl rfl | exact Or.inr (Or.inl rfl) | exact Or.inr (Or.inr rfl)) (hd : (x == ("__debug__" : Str)) = false := by decide) (hcd : (x == ("__classdict__" : Str)) = false := by decide)
    (hbase : attributeBase (.Name x p) "index" X.env (eval (.Name x p) X.env) = eval (.Name x p) X.env := by rfl)
    (hfew : ((backTo pos (starEach [e] X.env)).all (fun x => !x.1) && (backToKw pos (keywordEach [] X.env)).all (fun x => x.1.isSome) && decide ([e].length + ([] : List Keyword).length + (if ([] : List Keyword).isEmpty then 0 else 1) < 30)) = true := by rfl)
    (hline : (apos.endLine == pos.line) = true := by rfl) (hs : starEach [e] X.env = (false, eval e X.env) :: starEach [] X.env := by rfl) (hplain : (backTo pos (starEach [] X.env)).any (·.1) = false := by rfl) :
    SE X C W (.Call (.Attribute (.Name x p) "index" apos) [e] [] pos) (eIndex i f) := by
  have hva : SE X C W (.Name x p) (eVar i) := se_var i hN hv hd hcd
  refine pe_imp (pe_bm PySem.F.plainAttrs_list PySem.F.slot_list_index PySem.F.type_list_index (mt_indexD hu) hva (pa_cons he pa_nil hs) hbase hfew hline hs hplain) ?_
  rintro σ H Q ⟨F0, H0, F, ρ, g, rel, hh⟩
  unfold eIndex at hh
  rw [onOk_bind] at hh
  refine ⟨F0, H0, F, ρ, g, rel, onOk_mono hh (fun b g1 h1 u F1 H1 a1 r1 => ?_) fun x g1 h1 => h1⟩
  have rel1 := rel.step a1
  cases eb : b.d with
  | lst ds =>
    rw [eb] at h1
    dsimp only at h1
    rw [onOk_bind] at h1
    have ro1 := r1.ro
    rw [eb] at ro1
    obtain ⟨a, vs, rfl, ha, hz, rr⟩ := ro_lst a1.stp.le ro1
    refine ⟨.inl ⟨rfl, _, SqL.of ha⟩, F0, H0, F1, ρ, g1, rel1, onOk_mono h1 (fun c g2 h2 w F2 H2 a2 r2 => ?_) fun x g2 h2 cls d F2 H2 a2 e2 => h2 cls d F2 H2 (a1.trans a2) e2⟩
    unfold oIndex at h2
    split at h2
    · rename_i bb hbb
      split at hbb
      · rename_i hp
        rw [Bool.and_eq_true] at hp
        split at hbb
        · rename_i j hj
          cases hbb
          have ro2 := ro1.step a2.stp
          have pd : ds.all (plainAt 23) = true := by simpa only [plainAt] using (show plainAt (23 + 1) (.lst ds) = true from hp.1)
          obtain ⟨hlt, hjt, hmin⟩ := List.findIdx?_eq_some_iff_getElem.mp hj
          have gz : ds[j]? = some ds[j] := List.getElem?_eq_getElem hlt
          have pj : plainAt DEEP ds[j] = true := plain_up 23 _ (all_get pd gz)
          refine ⟨a, w, c.d.py, pys ds, j, (ds[j]).py, rfl, rfl, dps a2.stp.le hp.1 ro2, dp_ro a2.stp.le hp.2 r2.ro, ?_, shaped_of deep64 hp.2, by rw [pys_get, gz]; rfl, ?_, fun m z' hm hz' => ?_, h2 _ F2 H2 (a1.trans a2) (.int _)⟩
          · have := shaped_of deep64 hp.1
            simpa only [D.py] using this
          · rw [eqv_at _ _ _ pj hp.2]; exact hjt
          · rw [pys_get] at hz'
            have hml : m < ds.length := Nat.lt_trans hm hlt
            rw [List.getElem?_eq_getElem hml] at hz'
            cases hz'
            rw [eqv_at _ _ _ (plain_up 23 _ (all_get pd (List.getElem?_eq_getElem hml))) hp.2]
            have := hmin m hm
            show eqAt DEEP ds[m] c.d = false
            exact Bool.eq_false_iff.mpr this
        · cases hbb
      · cases hbb
    · exact h2.elim
  | _ => rw [eb] at h1; exact h1.elim
/-- f(p = e, ..), every parameter named, in the parameters' order -/
def SK (X : Cx) (C : Cs) (W : WX) (kws : List Keyword) (fs : List E) : Prop := PK X kws (tA C W fs)
theorem sk_nil : SK X C W [] [] := by
  refine ⟨fun pos pins s σ H Q I h => pk_nil.run pos pins s σ H Q I ?_⟩
  obtain ⟨F0, H0, F, ρ, g, rel, h⟩ := h
  exact h [] F H rel.after .nil
theorem sk_cons {nm : Option Str} {kpos : Pos} {e : Expr} {kws : List Keyword} {f : E} {fs : List E} (he : SE X C W e f) (hr : SK X C W kws fs) : SK X C W (⟨nm, e, kpos⟩ :: kws) (f :: fs) := by
  refine ⟨fun pos pins s σ H Q I h => (pk_cons he hr).run pos pins s σ H Q I ?_⟩
  obtain ⟨F0, H0, F, ρ, g, rel, h⟩ := h
  unfold eArgs at h
  rw [onOk_bind] at h
  refine ⟨F0, H0, F, ρ, g, rel, onOk_mono h (fun b g1 h1 v F1 H1 a1 r1 => ?_) fun x g1 h1 => h1⟩
  split at h1
  · exact h1.elim
  · rename_i nb
    obtain ⟨F2, a2, r2, l2⟩ := r1.freeze a1 (fun z => nb z)
    rw [onOk_bind] at h1
    refine ⟨F0, H0, F2, ρ, g1, rel.step a2, onOk_mono h1 (fun ds g2 h2 vs F3 H3 a3 r3 => ?_) fun x g2 h2 cls d F3 H3 a3 e3 => h2 cls d F3 H3 (a2.trans a3) e3⟩
    exact h2 (v :: vs) F3 H3 (a2.trans a3) (.cons (r2.le a3.stp.ff) r3)
theorem se_callK {kws : List Keyword} {fs : List E} {k : Nat} {f : Addr} {fd : FuncData} {ps : List Str} {m : Fn} {x : Str} {p : Pos} (F : FnG X.prog X.w X.K X.mg X.base k f fd ps (spF C m)) (hr : Room k X.A) (hgd : X.A.guards = some []) (hg : Gl X x) (hm : X.mg x = some (.ref f)) (hk : PySem.W.keepIn X.K (.ref f) = true)
    (hb : ∀ (s : Shared) (ws : List Value), X.K.In s.heap → ws.length = ps.length → BindsTo s fd ⟨[], ps.zip ws⟩ (ps.zip ws)) (tk : Takes X W) (ha : SK X C W kws fs) (hall : (backToKw pos (keywordEach kws X.env)).all (·.1.isSome) = true := by rfl) (hks : (backToKw pos (keywordEach kws X.env)).filterMap (·.1) = ps := by rfl)
    (hdb : (x == ("__debug__" : Str)) = false := by decide) (hpl : ((backTo pos (starEach [] X.env)).any (·.1) || (backToKw pos (keywordEach kws X.env)).any (·.1.isNone)) = false := by rfl) :
    SE X C W (.Call (.Name x p) [] kws pos) (eCall m fs) := by
  have hc : PE X (.Call (.Name x p) [] kws pos) (fun σ H Q => tA C W fs σ H fun vs H1 => spF C m vs H1 Q (WE W σ)) := by
    constructor
    intro pins s σ H Q I h
    refine wpAny_Call_Name_kw (ld_glob I hg hm ?_ hdb)
    refine PySem.W.callWith_KW0 (h₀ := X.base) I.ok.mod.kin hk hall (thn (ha.run pos pins s σ H _ I h) fun ws s1 got => ?_) hpl
    obtain ⟨vs, H1, I1, r, q⟩ := got
    refine ⟨I1.kIn, ?_⟩
    rw [hks]
    have hl : ws.length = ps.length := by
      rw [← r.length]
      exact F.len _ _ _ _ q
    refine wpAny_call (codeAny_mono (F.run X.A X.stack s1 H1 ⟨[], ps.zip ws⟩ ws vs Q (WE W σ) hr hgd I1.env0 (hb s1 ws I1.kIn hl) r q) fun res s' got => ?_)
    match res, got with
    | .error e, got => exact passAt tk σ pins H1 s1 e s' I1 got
    | .ok (.ret u), got => exact I1.after got
  refine pe_imp hc ?_
  rintro σ H Q ⟨F0, H0, F, ρ, g, rel, h⟩
  rw [eCall_0] at h
  unfold eCall0 at h
  rw [onOk_bind] at h
  refine ⟨F0, H0, F, ρ, g, rel, onOk_mono h (fun ds g1 h1 vs F1 H1 a1 r1 => ?_) fun x g1 h1 => h1⟩
  exact ⟨F1, g1, ds, a1.stp.le, a1.st, a1.tabs, r1, onOk_mono h1 (fun b g2 h2 v F2 H2 a2 rb => h2 v F2 H2 (a1.trans a2) (rb.early a1)) fun x g2 h2 cls d F2 H2 a2 ex => h2 cls d F2 H2 (a1.trans a2) ex⟩
end
end Sx

set_option Elab.async false
set_option linter.all false
set_option maxRecDepth 100000
set_option maxHeartbeats 4000000
/-! Sx18: a def that makes its second parameter's list longer: while len(found) <= index: found.append(led(numbers, found[-1])). -/
namespace Sx
open PySem PySem.Spec PyProof.Rows L2
def dropA (H : Hp) (a : Addr) : Hp := fun b => if b = a then none else H b
theorem dropA_same {H : Hp} {a : Addr} : dropA H a a = none := if_pos rfl
theorem dropA_ne {H : Hp} {a b : Addr} (h : b ≠ a) : dropA H a b = H b := if_neg h
/-- led(numbers, found[-1]) -/
def fGrow (led : Fn) : E := eCall led [eVar 0, eBin oIx (eVar 1) (eUn oNeg (eVal (.int 1)))]
def cGrow : E := eBin oLe (eUn oLen (eVar 1)) (eVar 2)
def roG (dn : D) (ds : List D) (n : Int) : Ro := [some (sh dn), some (ow (.lst ds)), some (sh (.int n))]
def growF (led : Fn) (dn : D) (n : Int) : Nat → List D → G → R (List D)
  | 0, _, _ => .no
  | k + 1, ds, g => if (ds.length : Int) ≤ n then (fGrow led (roG dn ds n) g).bind fun b g1 => (match b.t with
    | .bw => .no
    | _ => if ds.length < LIM then growF led dn n k (ds ++ [b.d]) g1 else .no) else .ok ds g
def spGrown (C : Cs) (led : Fn) : Sp := fun vs H Q _ => ∃ F g dn ds n vn a, vs = [vn, .ref a, .int n] ∧ Le F H ∧ StOk C F g H ∧ TabsC C F H ∧ Rep C F vn dn ∧ Own C F H (.ref a) a (.lst ds) ∧
  onOk (growF led dn n FUEL ds g) (fun ds' g' => ∀ F' H', Stp C F (dropA H a) F' H' → StOk C F' g' H' → TabsC C F' H' → Own C F' H' (.ref a) a (.lst ds') → Q .non H') (fun _ _ => False)
section
variable {X : Cx} {C : Cs} {W : WX} {pos : Pos}
/-- x.append(e), told at the very slots -/
theorem append_at {f : E} {i : Nat} {D' : Ends} {σ : L2.St} {F0 H0 F H : Hp} {ρ : Ro} {g : G} {ds : List D} (rel : Rel C F0 H0 F ρ g σ H) (hq : ρ[i]? = some (some (ow (.lst ds)))) (hl : ds.length < LIM)
    (h : onOk (f ρ g) (fun b g1 => b.t ≠ .bw ∧ ∀ F2 H2, Le F F2 → Rel C F0 H0 F2 (ρ.set i (some (ow (.lst (ds ++ [b.d]))))) g1 σ H2 → D'.nx σ H2) (fun x g1 => ∀ cls d F1 H1, After C F H g1 F1 H1 → ExR C F1 x cls d → W cls d σ H1)) :
    tDrop (tBM X.K "list" (fun x xs H Q => ∃ p ys y, x = .ref p ∧ xs = [y] ∧ H p = some (.lst ys) ∧ ys.length < sizeLine ∧ Q .non (upd H p (.lst (ys ++ [y])))) (tVar i) (tCons (tE C W f) tNil)) D' σ H := by
  obtain ⟨a, hs, own, ha0⟩ := rel.own hq
  obtain ⟨vs0, hv0, _, _⟩ := own.lst
  refine ⟨.ref a, hs, .inl ⟨rfl, _, SqL.of hv0⟩, F0, H0, F, ρ, g, rel, onOk_mono h (fun b g1 h1 y F1 H1 a1 r1 => ?_) fun x g1 h1 => h1⟩
  obtain ⟨nb, h1⟩ := h1
  obtain ⟨F2, a2, r2, l2⟩ := r1.freeze a1 nb
  have rel2 := rel.step a2
  obtain ⟨a', hs', own2, _⟩ := rel2.own hq
  rw [hs] at hs'
  cases hs'
  obtain ⟨vs, hv, hz, rv⟩ := own2.lst
  have hl2 : vs.length < sizeLine := lim_lt (by rw [rv.length]; exact hl)
  exact ⟨a, vs, y, rfl, rfl, hv, hl2, h1 F2 _ a2.stp.ff (rel2.mut hq hs (.lst upd_same (by rw [List.length_append]; exact hl2) (rv.snoc r2)))⟩
/-- the frame at grown's entry -/
theorem rel_grown {F H : Hp} {g : G} {dn : D} {ds : List D} {n : Int} {vn : V} {a : Addr} (hent : C.ent = none) (l : Le F H) (st : StOk C F g H) (tb : TabsC C F H) (rn : Rep C F vn dn) (o : Own C F H (.ref a) a (.lst ds)) :
    Rel C F (dropA H a) F (roG dn ds n) g [some vn, some (.ref a), some (.int n)] H := by
  refine ⟨⟨.refl F, l, fun c u h _ _ => ?_, fun c h => ?_, fun _ _ h => .inl h⟩, st, tb, rfl, fun i b h => ?_, fun i j bi bj c hi hj ti tj _ _ => ?_, fun p z => ?_⟩
  · by_cases e : c = a
    · subst e; rw [dropA_same] at h; cases h
    · rw [dropA_ne e] at h; exact h
  · by_cases e : c = a
    · subst e; rw [dropA_same] at h; exact absurd rfl h
    · rw [dropA_ne e] at h; exact h
  · match i, h with
    | 0, h => cases h; exact ⟨vn, rfl, rn⟩
    | 1, h => cases h; exact ⟨.ref a, rfl, a, dropA_same, o⟩
    | 2, h => cases h; exact ⟨.int n, rfl, Rep.int n⟩
    | i + 3, h => simp [roG] at h
  · have key : ∀ (i : Nat) (b : B), (roG dn ds n)[i]? = some (some b) → b.t = .ow → i = 1 := fun i b h t => by
      match i, h with
      | 0, h => cases h; cases t
      | 1, h => rfl
      | 2, h => cases h; cases t
      | i + 3, h => simp [roG] at h
    rw [key i bi hi ti, key j bj hj tj]
  · rw [hent] at z; cases z
/-- grown's body: the test, the append -/
theorem grown_read {led : Fn} {F H : Hp} {g : G} {dn : D} {ds : List D} {n : Int} {vn : V} {a : Addr} {D' : Ends} {tc : TT} {tb : TS} (hent : C.ent = none) (l : Le F H) (st : StOk C F g H) (tab : TabsC C F H) (rn : Rep C F vn dn) (o : Own C F H (.ref a) a (.lst ds))
    (hc : ∀ σ H Q, tT C W cGrow σ H Q → tc σ H Q) (hb : ∀ D σ H, tDrop (tBM X.K "list" (fun x xs H Q => ∃ p ys y, x = .ref p ∧ xs = [y] ∧ H p = some (.lst ys) ∧ ys.length < sizeLine ∧ Q .non (upd H p (.lst (ys ++ [y])))) (tVar 1) (tCons (tE C W (fGrow led)) tNil)) D σ H → tb D σ H)
    (h : onOk (growF led dn n FUEL ds g) (fun ds' g' => ∀ F' H', Stp C F (dropA H a) F' H' → StOk C F' g' H' → TabsC C F' H' → Own C F' H' (.ref a) a (.lst ds') → D'.nx [some vn, some (.ref a), some (.int n)] H') (fun _ _ => False)) :
    ∃ I : Nat → L2.St → Hp → Prop, (∃ k, I k [some vn, some (.ref a), some (.int n)] H) ∧ ∀ k σ H, I k σ H → tc σ H fun b H' => if b = true then ∃ J : L2.St → Hp → Prop, (∀ σ' H', J σ' H' → ∃ m, m < k ∧ I m σ' H') ∧ tb { nx := J, rt := D'.rt, bk := D'.nx, ct := J } σ H' else D'.nx σ H' := by
  refine ⟨fun k σ' Hk => σ' = [some vn, some (.ref a), some (.int n)] ∧ ∃ Fk gk dk, Rel C F (dropA H a) Fk (roG dn dk n) gk σ' Hk ∧ onOk (growF led dn n k dk gk) (fun ds' g' => ∀ F' H', Stp C F (dropA H a) F' H' → StOk C F' g' H' → TabsC C F' H' → Own C F' H' (.ref a) a (.lst ds') → D'.nx [some vn, some (.ref a), some (.int n)] H') (fun _ _ => False),
    ⟨FUEL, rfl, F, g, ds, rel_grown hent l st tab rn o, h⟩, ?_⟩
  rintro k σ' Hk ⟨rfl, Fk, gk, dk, rel, hk⟩
  cases k with
  | zero => exact hk.elim
  | succ k =>
    refine hc _ _ _ ⟨_, _, Fk, roG dn dk n, gk, rel, ?_⟩
    have ec : cGrow (roG dn dk n) gk = .ok (sh (.bl (decide ((dk.length : Int) ≤ n)))) gk := rfl
    rw [ec]
    refine ⟨_, rfl, fun F1 H1 a1 => ?_⟩
    have rel1 := rel.step a1
    unfold growF at hk
    by_cases q : (dk.length : Int) ≤ n
    · rw [if_pos q] at hk
      rw [decide_eq_true q]
      refine iteT ?_
      rw [onOk_bind] at hk
      refine ⟨fun σ' H' => σ' = [some vn, some (.ref a), some (.int n)] ∧ ∃ Fk gk dk, Rel C F (dropA H a) Fk (roG dn dk n) gk σ' H' ∧ onOk (growF led dn n k dk gk) (fun ds' g' => ∀ F' H', Stp C F (dropA H a) F' H' → StOk C F' g' H' → TabsC C F' H' → Own C F' H' (.ref a) a (.lst ds') → D'.nx [some vn, some (.ref a), some (.int n)] H') (fun _ _ => False),
        fun σ' H' z => ⟨k, Nat.lt_succ_self k, z⟩, hb _ _ _ ?_⟩
      by_cases q2 : dk.length < LIM
      · refine append_at rel1 rfl q2 (onOk_mono hk (fun b g1 h1 => ?_) fun x g1 z => z.elim)
        split at h1
        · exact h1.elim
        · rename_i nb
          rw [if_pos q2] at h1
          exact ⟨fun z => nb z, fun F2 H2 l2 rel2 => ⟨rfl, F2, g1, dk ++ [b.d], rel2, h1⟩⟩
      · exfalso
        cases e : fGrow led (roG dn dk n) gk with
        | ok b g1 =>
          rw [e] at hk
          have hk : onOk (match b.t with | .bw => R.no | _ => if dk.length < LIM then growF led dn n k (dk ++ [b.d]) g1 else .no) _ _ := hk
          split at hk
          · exact hk
          · rw [if_neg q2] at hk; exact hk
        | er x g1 => rw [e] at hk; exact hk
        | no => rw [e] at hk; exact hk
    · rw [if_neg q] at hk
      rw [decide_eq_false q]
      refine iteF ?_
      obtain ⟨a', hs, own, _⟩ := rel1.own (i := 1) (d := .lst dk) rfl
      cases hs
      exact hk F1 H1 rel1.stp rel1.st rel1.tabs own
def rApp : V → List V → Hp → VK → Prop := fun x xs H Q => ∃ p ys y, x = .ref p ∧ xs = [y] ∧ H p = some (.lst ys) ∧ ys.length < sizeLine ∧ Q .non (upd H p (.lst (ys ++ [y])))
def tGrown (C : Cs) (W : WX) (K : PySem.W.Frag) (led : Fn) : TS := tWhile (tT C W cGrow) (tDrop (tBM K "list" rApp (tVar 1) (tCons (tE C W (fGrow led)) tNil)))
/-- grown(a, x, c), x an own list -/
def sGrow (i : Nat) (led : Fn) (f h : E) : S := fun ρ g => onR (f ρ g) ρ fun b g1 => match b.t with
  | .bw => .no
  | _ => match ρ[i]? with
    | some (some ⟨.ow, .lst ds⟩) => onR (h ρ g1) ρ (fun k g2 => match k.d with
      | .int n => (match growF led b.d n FUEL ds g2 with | .ok ds' g3 => .nx (ρ.set i (some (ow (.lst ds')))) g3 | _ => .no)
      | _ => .no)
    | _ => .no
theorem Top.drop {F H : Hp} {a x : Addr} {d : D} (t : Top C F H x d) (n : x ≠ a) : Top C F (dropA H a) x d := by
  cases t with
  | lst h z r => exact .lst (by rw [dropA_ne n]; exact h) z r
  | dk h r => exact .dk (by rw [dropA_ne n]; exact h) r
  | dt h r => exact .dt (by rw [dropA_ne n]; exact h) r
/-- the list at a is longer, all else stands -/
theorem Rel.grow {F0 H0 F H F' H' : Hp} {ρ : Ro} {g g' : G} {σ : L2.St} {i : Nat} {d d1 : D} {a : Addr} (rel : Rel C F0 H0 F ρ g σ H) (hi : ρ[i]? = some (some (ow d))) (hs : σ[i]? = some (some (.ref a))) (ha0 : H0 a = none) (stp : Stp C F (dropA H a) F' H') (st : StOk C F' g' H') (tb : TabsC C F' H') (o : Own C F' H' (.ref a) a d1) :
    Rel C F0 H0 F' (ρ.set i (some (ow d1))) g' σ H' := by
  have hl : i < ρ.length := (List.getElem?_eq_some_iff.mp hi).1
  have na : ∀ c o, H0 c = some o → c ≠ a := fun c o h e => by subst e; rw [ha0] at h; cases h
  have na2 : ∀ c, H0 c ≠ none → c ≠ a := fun c h e => by subst e; exact h ha0
  refine ⟨⟨rel.stp.ff.trans stp.ff, stp.le, fun c u h n t => stp.keep c u (by rw [dropA_ne (na c u h)]; exact rel.stp.keep c u h n t) n t, fun c h => stp.there c (by rw [dropA_ne (na2 c h)]; exact rel.stp.there c h), fun c h n => (rel.stp.priv c h n).elim (fun e => stp.priv c (by rw [dropA_ne (na2 c h)]; exact rel.stp.there c h) e) fun ⟨xs, e⟩ => .inr ⟨xs, stp.ff _ _ e⟩⟩, st, tb, by rw [List.length_set]; exact rel.len, fun j c h => ?_, fun j k bj bk x hj hk tj tk sj sk => ?_, rel.ent⟩
  · by_cases q : i = j
    · subst q
      rw [List.getElem?_set_self hl] at h
      cases h
      exact ⟨_, hs, a, ha0, o⟩
    · rw [List.getElem?_set_ne q] at h
      obtain ⟨w, hw, rw'⟩ := rel.slot j c h
      refine ⟨w, hw, ?_⟩
      unfold RS at rw' ⊢
      cases ec : c.t with
      | sh => rw [ec] at rw'; exact Rep.le stp.ff rw'
      | bw => rw [ec] at rw'; exact rw'
      | ow =>
        rw [ec] at rw'
        obtain ⟨x, hx, rfl, f2, n2, t2⟩ := rw'
        have ne : x ≠ a := fun z => by subst z; exact q (rel.dis i j _ c x hi h rfl ec hs hw)
        have o2 : Own C F (dropA H a) (.ref x) x c.d := ⟨rfl, f2, n2, t2.drop ne⟩
        exact ⟨x, hx, o2.step stp⟩
  · have back : ∀ (m : Nat) (b : B), (ρ.set i (some (ow d1)))[m]? = some (some b) → ∃ b', ρ[m]? = some (some b') ∧ b'.t = b.t := fun m b h => by
      by_cases q : i = m
      · subst q
        rw [List.getElem?_set_self hl] at h
        cases h
        exact ⟨_, hi, rfl⟩
      · rw [List.getElem?_set_ne q] at h
        exact ⟨b, h, rfl⟩
    obtain ⟨b1, e1, t1⟩ := back j bj hj
    obtain ⟨b2, e2, t2⟩ := back k bk hk
    exact rel.dis j k b1 b2 x e1 e2 (t1.trans tj) (t2.trans tk) sj sk
theorem ss_grow {i : Nat} {x gx : Str} {gp px apos : Pos} {ea ec : Expr} {f h : E} {k : Nat} {ga : Addr} {fd : FuncData} {ps : List Str} {led : Fn} (F : FnG X.prog X.w X.K X.mg X.base k ga fd ps (spGrown C led)) (hr : Room k X.A) (hgd : X.A.guards = some []) (hg : Gl X gx) (hm : X.mg gx = some (.ref ga)) (hk : PySem.W.keepIn X.K (.ref ga) = true) (hb : Binds X.K fd ps [])
    (tk : Takes X W) (ha : SE X C W ea f) (hc : SE X C W ec h) (hN : X.N[i]? = some x := by rfl) (hv : Vis X.env.scope x := by first | exact Or.inl rfl | exact Or.inr (Or.inl rfl) | exact Or.inr (Or.inr rfl)) (hd : (x == ("__debug__" : Str)) = false := by decide) (hcd : (x == ("__classdict__" : Str)) = false := by decide) (hdb : (gx == ("__debug__" : Str)) = false := by decide)
    (h1 : starEach [ea, .Name x px, ec] X.env = (false, eval ea X.env) :: starEach [.Name x px, ec] X.env := by rfl) (h2 : starEach [.Name x px, ec] X.env = (false, eval (.Name x px) X.env) :: starEach [ec] X.env := by rfl) (h3 : starEach [ec] X.env = (false, eval ec X.env) :: starEach [] X.env := by rfl)
    (hpl : (backTo apos (starEach [.Name x px, ec] X.env)).any (·.1) = false := by rfl) (hsw : swapsWith (.Call (.Name gx gp) [ea, .Name x px, ec] [] apos) none pos.line X.env = pure false := by rfl) :
    SS X C W (.Expr (.Call (.Name gx gp) [ea, .Name x px, ec] [] apos) pos) (sGrow i led f h) := by
  have call : PE X (.Call (.Name gx gp) [ea, .Name x px, ec] [] apos) (fun σ H Q => tCons (tE C W f) (tCons (tVar i) (tCons (tE C W h) tNil)) σ H fun vs H1 => spGrown C led vs H1 Q (WE W σ)) := by
    constructor
    intro pins s σ H Q I hh
    refine wpAny_Call_Name_kw (ld_glob I hg hm ?_ hdb)
    refine PySem.W.callWith_K (h₀ := X.base) I.ok.mod.kin hk (thn ((pa_cons ha (pa_cons (pe_var hN hv hd hcd) (pa_cons hc pa_nil h3) h2) h1).run apos pins s σ H _ I hh) fun us s1 got => ?_) h1 hpl
    obtain ⟨vs, H1, I1, r, q⟩ := got
    exact ⟨I1.kIn, run_own (E := WE W) F hr hgd hb (passAt tk σ) I1 r q⟩
  refine ps_imp (ps_expr call hsw) ?_
  rintro D' σ H ⟨F0, H0, F1, ρ, g, rel, hh⟩
  unfold sGrow at hh
  refine ⟨F0, H0, F1, ρ, g, rel, onOk_mono (on_r rel (.refl F1) hh) (fun b g1 h1 v F2 H2 a1 r1 => ?_) fun x g1 h1 => h1⟩
  split at h1
  · exact h1.elim
  · rename_i nb
    obtain ⟨F3, a3, r3, l3⟩ := r1.freeze a1 (fun z => nb z)
    have rel3 := rel.step a3
    split at h1
    · rename_i ds hq
      obtain ⟨a, hs, own, ha0⟩ := rel3.own hq
      refine ⟨.ref a, hs, F0, H0, F3, ρ, g1, rel3, onOk_mono (on_r rel3 a3.stp.ff h1) (fun kk g2 h2 w F4 H4 a4 r4 => ?_) fun x g1 h1 => h1⟩
      have rel4 := rel3.step a4
      split at h2
      · rename_i n en
        have rn := r4.ro
        rw [en] at rn
        rw [ro_int rn]
        obtain ⟨a', hs', own4, _⟩ := rel4.own hq
        rw [hs] at hs'
        cases hs'
        refine ⟨F4, g2, b.d, ds, n, v, a, rfl, rel4.stp.le, rel4.st, rel4.tabs, r3.le a4.stp.ff, own4, ?_⟩
        cases eg : growF led b.d n FUEL ds g2 with
        | ok ds' g3 =>
          rw [eg] at h2
          intro F' H' stp st tb o
          exact h2 σ F' H' ((a3.stp.ff.trans a4.stp.ff).trans stp.ff) (rel4.grow hq hs ha0 stp st tb o)
        | er x g3 => rw [eg] at h2; exact h2.elim
        | no => rw [eg] at h2; exact h2.elim
      · exact h2.elim
    · exact h1.elim
end
section
variable {P : Program} {w : World} {K : PySem.W.Frag} {mg : Str → Option Value} {base : Heap} {C : Cs}
theorem grown_fn {x qual : Str} {st : Stmt} {f : Addr} {fd : FuncData} {n1 n2 n3 : Str} {k : Nat} {led : Fn} (hent : C.ent = none) (Fd : FunD K x qual (defArgs st) (defBody st) (defScope st) [] [] f fd) (Sc : FnScope [n1, n2, n3] [n1, n2, n3] (defScope st))
    (hb : ∀ (A : Around) (outer : List Env) (s : Shared) (H : Hp) (E : XK), Room k (A.deeper (envOfC qual (defScope st) s.heap.objs.size f (.ref (codeAt K f)))) → (A.deeper (envOfC qual (defScope st) s.heap.objs.size f (.ref (codeAt K f)))).guards = some [] →
      PSs (cxOf (L2.CX P w) P w K mg base [n1, n2, n3] qual (defScope st) f (.ref (codeAt K f)) A outer s H E) (defBody st) (tGrown C (fun cls d _ H => E cls d H) K led)) : FnG P w K mg base (k + 1) f fd [n1, n2, n3] (spGrown C led) := by
  refine fng_body Fd Sc (fun vs H Q E h => ?_) fun A outer s H vs Q E hr hgd h => ⟨_, hb A outer s H E hr hgd, ?_⟩
  · obtain ⟨F, g, dn, ds, n, vn, a, rfl, _⟩ := h
    rfl
  · obtain ⟨F, g, dn, ds, n, vn, a, rfl, l, sto, tab, rn, o, h⟩ := h
    exact grown_read (X := cxOf (L2.CX P w) P w K mg base [n1, n2, n3] qual (defScope st) f (.ref (codeAt K f)) A outer s H E) (D' := { nx := fun _ H' => Q .non H', rt := Q }) hent l sto tab rn o (fun _ _ _ z => z) (fun _ _ _ z => z) h
end
theorem sb_w {X : Cx} {C : Cs} {W : WX} {e : Expr} {f : E} (h : SBw X C W e f) : SB X C W e f := h.pt
theorem room_u {k : Nat} {A : Around} (r : Room k A) : A.units + 65 < cLine := by have := r.un; omega
theorem room_v {k : Nat} {A : Around} (r : Room k A) : A.units + 64 < cLine := by have := r.un; omega
theorem u1 {a c : Nat} (h : a + 65 < c) : a + 1 < c := by omega
end Sx

set_option Elab.async false
set_option linter.all false
set_option maxRecDepth 100000
set_option maxHeartbeats 4000000
/-! Sx19: facts of classes by a Bool, the Hook with the texts of __init__, keywords. -/
namespace PySem
namespace SxE
open PySem.W PySem.Calls PyProof.Rows PySem.HandSPX
def clsB (K : Frag) (C : Addr) : Bool := match K.lookup C with
  | some ⟨.type "type", _, .cls cd, sl⟩ => (match cd.mro, sl.toList with
    | .ref C' :: bm, [_, _, _, _, some (.builtin n), _] => C' == C && n == "ValueError.__new__" && !cd.hasDel && cd.hasDict && refsVE bm
    | _, _ => false)
  | _ => false
theorem clsB_ok {K : Frag} {C : Addr} (q : clsB K C = true) : ∃ nm q N bs bm sn sub ab col dd k0 k1 k2 k3 k5, K.lookup C = some (excClassObj nm q C N bs bm true sn sub ab col dd k0 k1 k2 k3 k5 "ValueError.__new__") ∧ refsVE bm = true := by
  unfold clsB at q
  split at q
  · rename_i dd cd sl ho
    split at q
    · rename_i C' bm k0 k1 k2 k3 n k5 hm hs
      simp only [Bool.and_eq_true, beq_iff_eq, Bool.not_eq_true'] at q
      obtain ⟨⟨⟨⟨rfl, rfl⟩, hdel⟩, hdi⟩, hre⟩ := q
      obtain ⟨nm, bs, mro, ns, qn, hd, sn, sub, ab, col, del⟩ := cd
      dsimp only at hm hdel hdi
      subst hm hdel hdi
      have hsl : sl = #[k0, k1, k2, k3, some (.builtin "ValueError.__new__"), k5] := by
        obtain ⟨l⟩ := sl
        simp only at hs
        rw [hs]
      subst hsl
      exact ⟨nm, qn, ns, bs, bm, sn, sub, ab, col, dd, k0, k1, k2, k3, k5, ho, hre⟩
    · cases q
  · cases q
/-- the text of an __init__: what the Hook sees of it -/
abbrev IniV : Type := Option (Str × Str × Arguments × FuncBody × Scope × Addr × List Str × Value × Value × Addr)
def iniW (K : Frag) (f : Addr) : IniV := match K.lookup f with
  | some ⟨_, _, .func fd, _⟩ => some (fd.name, fd.qualname, fd.params, fd.body, fd.scope, fd.globals, fd.closure.map (·.1), fd.defaults, fd.kwdefaults, fd.builtins)
  | _ => none
def iniB (file : Str) (K : Frag) (C f : Addr) : Bool := match K.lookup f with
  | some ⟨_, _, .func fd, _⟩ => (match fd.closure with
    | [(_, cc)] => (match K.lookup cc with | some ⟨_, _, .cell (some (.ref C')), _⟩ => C' == C | _ => false)
    | _ => false) && (match fd.code with
    | .ref cda => codeIn K (.ref cda) fd.qualname && (match K.lookup cda with
      | some ⟨_, _, .fields vs, _⟩ => (match (vs[2]? : Option Value) with | some (.str g _) => file == g | _ => false)
      | _ => false)
    | _ => false)
  | _ => false
/-- an __init__'s text -/
structure IniD where
  cls : Str
  qual : Str
  params : Arguments
  body : List Stmt
  scope : Scope
def IniD.val (d : IniD) : IniV := some ("__init__", d.qual, d.params, .stmts d.body, d.scope, mainGlobals, ["__class__"], .none, .none, builtinsNs)
theorem ini_ok {file : Str} {K : Frag} {C f : Addr} {d : IniD} (e : iniW K f = d.val) (c : iniB file K C f = true) :
    ∃ (oc : Value) (od : Option Addr) (doc pm : Value) (an : Option Addr) (cda : Addr) (ct : Value) (cc : Addr) (osl : Array (Option Value)) (ccl : Value) (cdd : Option Addr) (vs : Array Value) (ccs : Array (Option Value)) (g : Str) (tf : Tok) (cl : Value) (cld : Option Addr) (csl : Array (Option Value)),
    K.lookup f = some ⟨oc, od, .func (ksFn "__init__" d.qual d.params d.body d.scope .none .none doc pm an (.ref cda) ct cc), osl⟩ ∧ codeIn K (.ref cda) d.qual = true ∧
    K.lookup cda = some ⟨ccl, cdd, .fields vs, ccs⟩ ∧ vs[2]? = some (.str g tf) ∧ (file == g) = true ∧ K.lookup cc = some ⟨cl, cld, .cell (some (.ref C)), csl⟩ := by
  unfold iniW IniD.val at e
  unfold iniB at c
  cases q : K.lookup f with
  | none => rw [q] at e; cases e
  | some o =>
    obtain ⟨oc, od, dt, osl⟩ := o
    rw [q] at e c
    cases dt with
    | func fd =>
      obtain ⟨nm, qn, pr, bd, sc, gl, cls, df, kd, doc, pm, an, cod, ct, bi⟩ := fd
      dsimp only at e c
      simp only [Option.some.injEq, Prod.mk.injEq] at e
      obtain ⟨rfl, rfl, rfl, rfl, rfl, rfl, e7, rfl, rfl, rfl⟩ := e
      obtain ⟨c1, c2⟩ := Bool.and_eq_true_iff.mp c
      split at c1
      · rename_i x cc
        have ex : x = "__class__" := by
          have : [x] = (["__class__"] : List Str) := e7
          exact (List.cons.inj this).1
        subst ex
        split at c1
        · rename_i cl cld C' csl hc
          have eC : C' = C := beq_iff_eq.mp c1
          subst eC
          split at c2
          · rename_i cda
            obtain ⟨c3, c4⟩ := Bool.and_eq_true_iff.mp c2
            split at c4
            · rename_i ccl cdd vs ccs hv
              split at c4
              · rename_i g tf hg
                exact ⟨oc, od, doc, pm, an, cda, ct, cc, osl, ccl, cdd, vs, ccs, g, tf, cl, cld, csl, rfl, c3, hv, hg, c4, hc⟩
              · cases c4
            · cases c4
          · cases c2
        · cases c1
      · cases c1
    | _ => cases e
/-- the Bool of a class and of its __init__ -/
def xtB (file : Str) (K : Frag) (C f : Addr) : Bool :=
  clsB K C && decide (findIn K (.ref C) "__setattr__" = some (some (.builtin "object.__setattr__"))) && decide (findIn K (.ref C) "__getattribute__" = some (some (.builtin "BaseException.__getattribute__"))) && decide (findIn K (.ref C) "__getattr__" = some none) &&
  decide (findIn K (.ref C) "__init__" = some (some (.ref f))) && decide (typeIn K (.ref f) = some (.type "function")) && keepIn K (.ref C) && decide (subIn K (.ref C) (.type "BaseException") = some true) && decide (subIn K (.ref C) (.type "ValueError") = some true) &&
  decide (typeIn K (.ref C) = some (.type "type")) && hasDictIn K C && decide (mroIn K C (.ref C) = some true) && decide (ks_superIn K C C "__init__" = some (some (.builtin "ValueError.__init__"))) && decide (nsIn K cStatics "thirdparty.any" = some none) && decide (nsIn K mainGlobals "super" = some none) && iniB file K C f
theorem xt_ok {P : Program} {K : Frag} {C f : Addr} {d : IniD} (top : (P.main.scope.names.lookup ("super" : Str)).isSome = false) (e : iniW K f = d.val) (c : xtB P.main.file K C f = true) : XTxt P K C f d.qual d.params d.body d.scope := by
  unfold xtB at c
  simp only [Bool.and_eq_true, decide_eq_true_eq] at c
  obtain ⟨⟨⟨⟨⟨⟨⟨⟨⟨⟨⟨⟨⟨⟨⟨c1, c2⟩, c3⟩, c4⟩, c5⟩, c6⟩, c7⟩, c8⟩, c9⟩, c10⟩, c11⟩, c12⟩, c13⟩, c14⟩, c15⟩, c16⟩ := c
  exact ⟨clsB_ok c1, c2, c3, c4, c5, c6, c7, c8, c9, c10, c11, c12, c13, c14, c15, top, ini_ok e c16⟩
end SxE
end PySem
namespace Sx
open PySem PySem.Spec PyProof.Rows L2
/-! ### the Hook -/
abbrev AlY : Type := (He.AlD × Bool) × List SxE.IniV
/-- the objects that are looked at: what the globals name, the functions' codes, the classes' names and what these name, the statics -/
def codesOf (g : Addr → Option Obj) (as : List Addr) : List Addr := as.filterMap fun a => match g a with
  | some ⟨_, _, .func fd, _⟩ => (match fd.code with | .ref c => some c | _ => none)
  | _ => none
def cellsOf (g : Addr → Option Obj) (as : List Addr) : List Addr := as.flatMap fun a => match g a with
  | some ⟨_, _, .func fd, _⟩ => fd.closure.map (·.2)
  | _ => []
def nssOf (g : Addr → Option Obj) (as : List Addr) : List Addr := as.filterMap fun a => match g a with
  | some ⟨_, _, .cls cd, _⟩ => some cd.ns
  | _ => none
def namedBy (g : Addr → Option Obj) (as : List Addr) : List Addr := as.flatMap fun a => match g a with
  | some o => He.refsD o
  | none => []
def withNs (g : Addr → Option Obj) (a1 ns : List Addr) : List Addr := (fun ms => cStatics :: (a1 ++ (codesOf g a1 ++ (ns ++ (ms ++ (codesOf g ms ++ cellsOf g ms)))))) (namedBy g ns)
def asY (g : Addr → Option Obj) (n : Nat) : List Addr := (fun a1 => withNs g a1 (nssOf g a1)) (mainGlobals :: namedBy g [mainGlobals])
def obsK (fa : List He.Fa) (fn : List He.DefD) (tf : List He.Defn) (is : List SxE.IniD) (ex : PySem.W.Frag → Bool) (g : Addr → Option Obj) (K : PySem.W.Frag) : AlY :=
  ((He.obsD fa fn K, ex K && He.tabsB g tf K), is.map fun d => SxE.iniW K (He.fAd K (d.cls, some "__init__")))
def obsY (n : Nat) (fa : List He.Fa) (fn : List He.DefD) (tf : List He.Defn) (is : List SxE.IniD) (ex : PySem.W.Frag → Bool) (g : Addr → Option Obj) : AlY := obsK fa fn tf is ex g (He.frT g (asY g n))
def valY (fn : List He.DefD) (is : List SxE.IniD) : AlY := ((He.valD fn, true), is.map SxE.IniD.val)
structure SaysY (fa : List He.Fa) (fn : List He.DefD) (tf : List He.Defn) (is : List SxE.IniD) (ex : PySem.W.Frag → Bool) (h : Heap) (K : PySem.W.Frag) : Prop where
  d : He.SaysD fa fn K
  more : ex K = true
  hd : ∀ p ∈ tf, PySem.W.codeHdIn K (He.cT K p).1 (He.cT K p).2 = true
  out : ∀ p ∈ tf, K.lookup (He.cT K p).2 = none
  empty : ∀ p ∈ tf, h.get? (He.cT K p).2 = some { cls := .none, data := .fields #[] }
  ini : is.map (fun d => SxE.iniW K (He.fAd K (d.cls, some "__init__"))) = is.map SxE.IniD.val
theorem map_at {α β : Type} {f g : α → β} : ∀ {l : List α}, l.map f = l.map g → ∀ a ∈ l, f a = g a
  | [], _, _, h => (List.not_mem_nil h).elim
  | b :: r, e, a, h => by
    simp only [List.map_cons] at e
    obtain ⟨e1, e2⟩ := List.cons.inj e
    rcases List.mem_cons.mp h with rfl | h
    · exact e1
    · exact map_at e2 a h
theorem saysY_of {n : Nat} {fa : List He.Fa} {fn : List He.DefD} {tf : List He.Defn} {is : List SxE.IniD} {ex : PySem.W.Frag → Bool} {h : Heap} (e : obsY n fa fn tf is ex h.get? = valY fn is) : SaysY fa fn tf is ex h (He.frT h.get? (asY h.get? n)) := by
  have e1 : He.obsD fa fn (He.frT h.get? (asY h.get? n)) = He.valD fn := congrArg (fun z : AlY => z.1.1) e
  have e2 : (ex (He.frT h.get? (asY h.get? n)) && He.tabsB h.get? tf (He.frT h.get? (asY h.get? n))) = true := congrArg (fun z : AlY => z.1.2) e
  obtain ⟨m1, m2⟩ := Bool.and_eq_true_iff.mp e2
  have key : ∀ p ∈ tf, PySem.W.codeHdIn (He.frT h.get? (asY h.get? n)) (He.cT (He.frT h.get? (asY h.get? n)) p).1 (He.cT (He.frT h.get? (asY h.get? n)) p).2 = true ∧ ∃ o, h.get? (He.cT (He.frT h.get? (asY h.get? n)) p).2 = some o ∧ He.emptyTab o = true := fun p hp => by
    obtain ⟨q1, q2⟩ := Bool.and_eq_true_iff.mp (List.all_eq_true.mp m2 p hp)
    refine ⟨q1, ?_⟩
    split at q2
    · rename_i o ho; exact ⟨o, ho, q2⟩
    · cases q2
  refine ⟨e1, m1, fun p hp => (key p hp).1, fun p hp => ?_, fun p hp => ?_, congrArg (fun z : AlY => z.2) e⟩
  · obtain ⟨_, o, q, z⟩ := key p hp; exact He.frT_none q z
  · obtain ⟨_, o, q, z⟩ := key p hp; rw [q, He.emptyTab_eq z]
def hookY (n : Nat) (fa : List He.Fa) (fn : List He.DefD) (tf : List He.Defn) (is : List SxE.IniD) (ex : PySem.W.Frag → Bool) : PySem.W.Hook where
  α := AlY
  obs := fun s => obsY n fa fn tf is ex s.heap.get?
  val := fun _ => valY fn is
  says := fun _ h => ∃ K : PySem.W.Frag, K.In h ∧ SaysY fa fn tf is ex h K
  of := fun _ _ e => ⟨_, He.frT_in, saysY_of e⟩
  keeps := fun _ _ _ ⟨K, hK, c⟩ k => ⟨K, PySem.W.Frag.In.keeps hK k, ⟨c.d, c.more, c.hd, c.out, fun p hp => k _ _ (c.empty p hp), c.ini⟩⟩
theorem obsY_eq {n : Nat} {fa : List He.Fa} {fn : List He.DefD} {tf : List He.Defn} {is : List SxE.IniD} {ex : PySem.W.Frag → Bool} {g : Addr → Option Obj} {s : Shared} (h : ∀ a, g a = s.heap.get? a) : obsY n fa fn tf is ex g = (hookY n fa fn tf is ex).obs s := by
  have e : g = s.heap.get? := funext h
  rw [e] <;> rfl
/-! ### calls by keywords alone -/
theorem bindsK {K : PySem.W.Frag} {x qual : Str} {params : Arguments} {body : List Stmt} {scope : Scope} {f : Addr} {fd : FuncData} {ps : List Str} (F : FunD K x qual params body scope [] [] f fd)
    (h : ∀ (kV doc pm : Value) (an : Option Addr) (cdv ct : Value) (ws : List Value), ws.length = ps.length → bindArgs (PySem.W.fnOf x qual params body scope .none kV doc pm an cdv ct) ⟨[], ps.zip ws⟩ = pure (ps.zip ws)) (s : Shared) (ws : List Value) (hl : ws.length = ps.length) : BindsTo s fd ⟨[], ps.zip ws⟩ (ps.zip ws) := by
  obtain ⟨oc, od, dV, kV, doc, pm, an, cdv, ct, osl, rfl, lk, hcd, hD, hK⟩ := F.ex
  rcases hD with ⟨_, rfl⟩ | ⟨e, _⟩
  · exact .of_eq (h kV doc pm an cdv ct ws hl)
  · exact absurd rfl e
theorem codeOf_at {K : PySem.W.Frag} {p : Str × Option Str} : He.codeOf K p = codeAt K (He.fAd K p) := rfl
/-- one table, one name -/
theorem tab_one {T : List (Addr × Str)} (hn : (T.map (·.1)).Nodup) {P : Addr} {q : Str} (h : (P, q) ∈ T) : ∀ p ∈ T, p.1 = P → p.2 = q := by
  induction T with
  | nil => exact (List.not_mem_nil h).elim
  | cons a r ih =>
    simp only [List.map_cons, List.nodup_cons] at hn
    intro p hp e
    rcases List.mem_cons.mp h with rfl | h1
    · rcases List.mem_cons.mp hp with rfl | hp
      · rfl
      · exact (hn.1 (List.mem_map.mpr ⟨p, hp, e⟩)).elim
    · rcases List.mem_cons.mp hp with rfl | hp
      · exact (hn.1 (List.mem_map.mpr ⟨_, h1, e.symm⟩)).elim
      · exact ih hn.2 h1 p hp e
end Sx

set_option Elab.async false
set_option linter.all false
set_option maxRecDepth 100000
set_option maxHeartbeats 4000000
/-! Sx20: isinstance of a caught exception; zip. -/
namespace PySem
namespace SxE
open PySem.W PySem.Calls PyProof.Rows PySem.HandSPX
section
variable {prog : Program} {w : World} {A : Around} {E : Value → Shared → Prop} {s : Shared} {K : Frag} {x D : Addr} {ox : Obj} {od : Option Obj}
theorem dataN {C : Addr} {nm : Str} {a g : Value} (h1 : (clsIn K C).isSome = true) (h2 : findIn K (.ref C) nm = some (some a)) (h3 : specialIn K a "__get__" = some (some g)) (h4 : takesIn K a = some true) : findObj K C od nm = some (.bind g a) := by
  obtain ⟨cd, hc⟩ := Option.isSome_iff_exists.mp h1
  unfold findObj; rw [hc, Option.bind_some, h2, Option.bind_some]; simp [h3, h4]
/-- e.__class__ of an exception with or without a dict -/
theorem cls_of {Q : Option Value → Shared → Prop} (C : L2.ExcC K D) (X : K.In s.heap) (I : InstAt s.heap x ox D od) (h : Q (some (.ref D)) { s with toks := s.toks + 1 }) : wpAny (model prog w) A (getAttr? (.ref x) "__class__") Q E s := by
  have hfo : findObj K D od "__class__" = some (.bind (.builtin "getset_descriptor.__get__") (.builtin "object.__class__")) := dataN (by obtain ⟨cd, hc, _⟩ := any_some C.hd; rw [hc]; rfl) C.ha C.hn C.ht
  obtain ⟨hp, gg, dd, tt, os⟩ := s
  have L0 := I.type (M := model prog w); have L1 := looks_findIn (M := model prog w) X C.hg
  have L2 := looks_findIn (M := model prog w) X C.hk; have L3 := looks_find (M := model prog w) X I hfo
  have sub : Looks (model prog w) hp (isInstance (.ref x) (.type "BaseException")) true := L0.andThen (looks_subIn X C.hs)
  have n0 : (false && onTheHeap (Value.builtin "BaseException.__getattribute__")) = false := rfl
  have n2 : (Value.builtin "BaseException.__getattribute__" == Value.builtin "object.__getattribute__") = false := by decide +kernel
  have n1 : (onTheHeap (Value.ref D) && Value.builtin "BaseException.__getattribute__" == Value.builtin "object.__getattribute__") = false := by rw [n2]; rfl
  unfold getAttr? getAttrBy? getAttrBy; refine wpAny_bind (wpAny_mkText (wpAny_bind (wpAny_attempt (wpAny_holding (wpAny_bind (L0.at (wpAny_bind (L1.at ?_))))))))
  show wpAny _ _ (if (onTheHeap (Value.ref D) && Value.builtin "BaseException.__getattribute__" == Value.builtin "object.__getattribute__") = true then _ else _) _ _ _; rw [n1, if_neg Bool.false_ne_true]
  unfold getAttrByItsOwn hookBefore; refine wpAny_bind ?_
  rw [if_pos (show onTheHeap (Value.ref D) = true from rfl)]; refine L2.at ?_
  refine wpAny_bind (wpAny_attempt (wpAny_holding ?_)); unfold callGetattribute
  rw [n0, if_neg Bool.false_ne_true]; unfold boundAndCalled
  rw [PySem.F.excAttr_ValueError.ga.bind (.ref x)]; refine wpAny_bind (wpAny_pure ?_)
  show wpAny _ _ (call (.builtin "BaseException.__getattribute__") [.ref x, .str "__class__" tt]) _ _ _; refine wpAny_call (codeAny_call_builtin PySem.F.excAttr_ValueError.ga.plain PySem.F.entry_bexc_ga ?_)
  refine @check_slot (model prog w) _ _ ⟨hp, gg, dd, tt + 1, os⟩ "BaseException.__getattribute__" "BaseException" "__getattribute__" (.ref x) [.str "__class__" tt] [] _ (by decide +kernel) (by decide +kernel) sub (PySem.F.args_bexc_ga (.ref x) (.str "__class__" tt)) ?_
  unfold Builtin.«object.__getattribute__»; refine wpAny_bind (wpAny_of_eq (a := ((Value.ref x : Value), [Value.str "__class__" tt])) (by first | rfl | (simp only [slotArgs]; rfl)) ?_)
  refine wpAny_bind (wpAny_pure (wpAny_bind (L0.at (wpAny_bind (L3.at ?_))))); show wpAny _ _ (holding [Value.builtin "object.__class__"] (call (.builtin "getset_descriptor.__get__") [.builtin "object.__class__", .ref x, .ref D]) >>= ret) _ _ _
  refine wpAny_bind (wpAny_holding (wpAny_call (class_get (s := ⟨hp, gg, dd, tt + 1, os⟩) (ox := ox) (od := od) X I C.hm ?_))); refine wpAny_pure ?_
  show wpAny _ _ (handedOut (.ref D)) _ _ _; rw [handedOut_of (v := .ref D) rfl]
  first | exact wpAny_pure (wpAny_pure h) | exact wpAny_pure h | exact wpAny_pure (wpAny_bind (wpAny_pure (wpAny_pure h)))
theorem kit_of (C : L2.ExcC K D) : KitX K (.ref x) (.ref D) (fun h => InstAt h x ox D od) where
  ty := fun _ _ _ I => I.type
  it := fun M h X I => by
    obtain ⟨cdD, hcD, _⟩ := any_some C.hd; unfold clsIn at hcD
    split at hcD
    · rename_i c1 d1 cd1 sl1 ho; intro A1 Q1 E1 s1 k q
      unfold isType loadHead; exact wpAny_bind (wpAny_loadPart (k _ _ (X _ _ ho)) (wpAny_pure q))
    · cases hcD
  ne := fun h tp dd its n sl X htp => by
    obtain ⟨cdD, hcD, _⟩ := any_some C.hd
    refine Bool.eq_false_iff.mpr fun q => ?_; have e : D = tp := Value.ref.inj (beq_iff_eq.mp q)
    subst e; unfold clsIn at hcD
    split at hcD
    · rename_i c1 d1 cd1 sl1 ho; have z := (X _ _ ho).symm.trans htp; cases z
    · cases hcD
  ca := fun X I k => cls_of C X I k
end
end SxE
end PySem
namespace Sx
open PySem PySem.Spec PyProof.Rows L2
def excB (K : PySem.W.Frag) (D : Addr) : Bool := decide (PySem.W.findIn K (.ref D) "__class__" = some (some (.builtin "object.__class__"))) && decide (PySem.W.specialIn K (.builtin "object.__class__") "__get__" = some (some (.builtin "getset_descriptor.__get__"))) &&
  decide (PySem.W.takesIn K (.builtin "object.__class__") = some true) && decide (PySem.W.mroIn K D (.type "object") = some true)
theorem exc_ok {K : PySem.W.Frag} {D : Addr} (x : XfC K D) (h : excB K D = true) : ExcC K D := by
  unfold excB at h
  simp only [Bool.and_eq_true, decide_eq_true_eq] at h
  obtain ⟨⟨⟨h1, h2⟩, h3⟩, h4⟩ := h
  exact ⟨x.ga, x.gg, x.exC, x.hdC, h1, h2, h3, h4⟩
section
variable {X : Cx} {C : Cs} {W : WX} {pos : Pos}
/-- isinstance(e, S), e what the suite holds (at a; its class Ca; its dict d) -/
def rIsX (K : PySem.W.Frag) (a Ca S : Addr) (d : Option Addr) : List V → Hp → VK → Prop := fun xs H Q => ∃ b, xs = [.ref a, .ref S] ∧ (d = none ∨ ∃ dd fs, d = some dd ∧ H dd = some (.xd fs)) ∧ PySem.W.kitOne K (.ref Ca) (.ref S) = some b ∧ Q (.bl b) H
theorem call_isX {a Ca S : Addr} {oe : Obj} {d : Option Addr} {pn : List (Addr × Obj)} (T : ExcC X.K Ca) (hz : Zc (.ref Ca) d oe) (hf : ∃ vs, oe.data = .fields vs) : CallR (X.suite a ((a, oe) :: pn)) (.builtin "isinstance") (rIsX X.K a Ca S d) := by
  intro pins s σ H xs us Q I r h
  obtain ⟨b, rfl, hd, e, q⟩ := h
  cases r with
  | cons rx rr =>
    cases rr with
    | cons rt rr =>
      cases rr
      cases rx
      cases rt
      obtain ⟨hget, _⟩ := I.pin (a, oe) (List.mem_append.mpr (.inl List.mem_cons_self))
      obtain ⟨vs, hv⟩ := hf
      have no : PySem.W.notCls oe = true := by unfold PySem.W.notCls; rw [hv] <;> rfl
      have J : ∃ od, PySem.W.InstAt s.heap a oe Ca od := by
        rcases hd with rfl | ⟨dd, fs, rfl, hdd⟩
        · exact ⟨none, hget, hz.1, no, by rw [hz.2]; trivial⟩
        · have hx : ObjOk X.prog X.w H s.heap dd (.xd fs) := I.hok dd _ hdd
          obtain ⟨mA, hns, hr⟩ := hx
          obtain ⟨od, ho, hl⟩ := lookIn_ns hns
          exact ⟨some od, hget, hz.1, no, by rw [hz.2]; exact ho⟩
      obtain ⟨od, J⟩ := J
      exact PySem.W.kia_one (SxE.kit_of (ox := oe) (od := od) T) I.kIn J e (fun z => nomatch z) fun tk => ⟨.bl b, H, I.kept (t' := tk) fun _ _ z => z, rfl, q⟩
theorem se_isX {a Ca S : Addr} {j : Nat} {oe : Obj} {d : Option Addr} {pn : List (Addr × Obj)} {e : Expr} {f : E} {x : Str} {p p2 : Pos} {cs : List Nat} (hx : C.exa = some (a, d, j)) (T : ExcC X.K Ca) (hk : PySem.W.kitOne X.K (.ref Ca) (.ref S) = some (cs.contains j)) (hz : Zc (.ref Ca) d oe) (hf : ∃ vs, oe.data = .fields vs)
    (hg : Gl X "isinstance") (hm : X.mg "isinstance" = none) (hgS : Gl X x) (hmS : X.mg x = some (.ref S)) (he : SE (X.suite a ((a, oe) :: pn)) C W e f) (hdb : (x == ("__debug__" : Str)) = false := by decide)
    (hs : starEach [e, .Name x p2] X.env = (false, eval e X.env) :: starEach [.Name x p2] X.env := by rfl) :
    SE (X.suite a ((a, oe) :: pn)) C W (.Call (.Name "isinstance" p) [e, .Name x p2] [] pos) (eUn (oIsX cs) f) := by
  refine pe_imp (pe_callB (call_isX (S := S) T hz hf) hg hm (by decide +kernel) (pa_cons he (pa_cons (pe_glob (v := .ref S) hgS hmS rfl hdb) pa_nil) hs) (by decide) (by decide) hs) fun σ H Q tt => ?_
  refine one_op (r := fun x H1 Q => rIsX X.K a Ca S d [x, .ref S] H1 Q) (fun x dx F H b Q l i rx e k => ?_) tt
  unfold oIsX at e
  split at e
  · rename_i c fs
    cases e
    rcases rx with rx | ⟨_, o⟩
    · have key : c = j ∧ x = .ref a ∧ (d = none ∨ ∃ dd fs, d = some dd ∧ H dd = some (.xd fs)) := by
        cases rx with
        | exc h1 h2 r =>
          rw [hx] at h1
          cases h1
          exact ⟨rfl, rfl, .inr ⟨_, _, rfl, l _ _ h2⟩⟩
        | exc0 h1 =>
          rw [hx] at h1
          cases h1
          exact ⟨rfl, rfl, .inl rfl⟩
      obtain ⟨rfl, rfl, hd⟩ := key
      exact ⟨_, rfl, hd, hk, q_here l k rfl (.bl _)⟩
    · cases o.top
  · cases e
end
end Sx

set_option Elab.async false
set_option linter.all false
set_option maxRecDepth 100000
set_option maxHeartbeats 4000000
/-! Sx21: zip(reversed(x), reversed(y)), x and y tuples of one length. -/
namespace SxZ
open PySem PySem.Spec PyProof.Rows L2 RT
open PySem.Sem (wp)
/-- where the walk stands: n items, i of them told -/
abbrev At (h : Heap) (it t : Addr) (n i : Nat) : Prop := i ≤ n ∧ IsRt h it t ((n : Int) - 1 - (i : Nat))
section
variable {prog : Program} {w : World} {A : Around} {E : Value → Shared → Prop} {s : Shared}
theorem nextR {it t : Addr} {i : Nat} {items : Array Value} {x : Value} {Q : Value → Shared → Prop} (hit : IsRt s.heap it t (i : Int)) (ht : IsTup s.heap t items) (hx : items[i]? = some x) (hsz : items.size ≤ sizeLine)
    (hQ : ∀ h', IsRt h' it t ((i : Int) - 1) → Heap.SameBut it s.heap h' → Q x { s with heap := h', toks := s.toks + 1 }) : wpAny (model prog w) A (Builtin.SmallTypes.nextOf (.ref it)) Q E s := by
  obtain ⟨o, ho, hc, hd⟩ := id hit
  have hi : i < items.size := (Array.getElem?_eq_some_iff.mp hx).1; have hT : s.TypeIs (.ref t) "tuple" := IsTup.typeOf' ht
  rw [sizeLine_eq] at hsz; unfold Builtin.SmallTypes.nextOf
  refine wpAny_bind (wpAny_callSpecial?_slot (name := Str.ofString "__next__") hit.typeIs slot_rt_next (wpAny_call_entry slot_rt_next hit.typeIs entry_rt_next ?_ (args_rt_next _)))
  unfold Builtin.«reversed.__next__»; refine wpAny_bind (wpAny_of_eq (a := (Value.ref it, [])) rfl ?_)
  try dsimp only
  refine wpAny_bind (wpAny_field ho hd (x := .ref t) rfl ?_); try dsimp only
  refine wpAny_bind (wpAny_field ho hd (x := rawInt (i : Int)) rfl ?_); show wpAny _ _ (if (i : Int) < 0 then _ else _) _ _ s
  rw [if_neg (by omega)]
  try dsimp only
  refine wpAny_bind (wpAny_specialOf hT get_tuple ?_); try dsimp only
  try rw [if_neg (by decide)]
  try dsimp only
  refine wpAny_bind (wpAny_mkInt ?_); refine wpAny_bind (wpAny_attempt ?_)
  have fin : seqIndex? (i : Int) items.size = some i := seqIndex_of (by omega) (by omega); refine PyProof.Rows.getItem_tuple (s := { s with toks := s.toks + 1 }) ht (by omega) (by omega) fin hx ?_
  try dsimp only
  refine wpAny_bind (wpAny_field (s := { s with toks := s.toks + 1 }) ho hd (x := rawInt (i : Int)) rfl ?_); try dsimp only
  refine wpAny_bind (wpAny_setField (s := { s with toks := s.toks + 1 }) ho hd (by simp) ?_); first | refine wpAny_pure ⟨x, rfl, wpAny_pure (hQ _ ?_ (Heap.SameBut.update ..))⟩ | refine wpAny_bind (wpAny_pure (wpAny_pure ⟨x, rfl, wpAny_pure (hQ _ ?_ (Heap.SameBut.update ..))⟩))
  exact ⟨_, Heap.get?_update_self _ ho (Obj.isFreed_of_fields (Obj.data_mapFields hd _)), (Obj.cls_mapFields ..).trans hc, by rw [Obj.data_mapFields hd]; simp⟩
theorem endR {it t : Addr} {Q : Value → Shared → Prop} (hh : A.handled = none) (hit : IsRt s.heap it t (-1))
    (hE : ∀ h' e, Heap.ExtBut it s.heap h' → (∃ o, h'.get? e = some o ∧ o.cls = .type "StopIteration") → E (.ref e) { s with heap := h' }) : wpAny (model prog w) A (Builtin.SmallTypes.nextOf (.ref it)) Q E s := by
  obtain ⟨o, ho, hc, hd⟩ := id hit
  unfold Builtin.SmallTypes.nextOf; refine wpAny_bind (wpAny_callSpecial?_slot (name := Str.ofString "__next__") hit.typeIs slot_rt_next (wpAny_call_entry slot_rt_next hit.typeIs entry_rt_next ?_ (args_rt_next _)))
  unfold Builtin.«reversed.__next__»; refine wpAny_bind (wpAny_of_eq (a := (Value.ref it, [])) rfl ?_)
  try dsimp only
  refine wpAny_bind (wpAny_field ho hd (x := .ref t) rfl ?_); try dsimp only
  refine wpAny_bind (wpAny_field ho hd (x := rawInt (-1)) rfl ?_); show wpAny _ _ (if (-1 : Int) < 0 then _ else _) _ _ s
  rw [if_pos (by decide)]
  try dsimp only
  refine wpAny_bind (wpAny_rule ?_); refine wpAny_bind ?_
  wp_delta
  refine wpAny_bind (wpAny_setField ho hd (by simp) ?_); have ho2 := Heap.get?_update_self (Obj.mapFields (·.setIfInBounds 1 (rawInt (-1)))) ho (Obj.isFreed_of_fields (Obj.data_mapFields hd _))
  refine wpAny_setField (s := { s with heap := s.heap.update it (Obj.mapFields (·.setIfInBounds 1 (rawInt (-1)))) }) ho2 (Obj.data_mapFields hd _) (by simp) ?_; try dsimp only
  first | show wpAny _ _ (newExc (.type "StopIteration") [] >>= _) _ _ _ | (refine wpAny_bind ?_; show wpAny _ _ (newExc (.type "StopIteration") [] >>= _) _ _ _) | (refine wpAny_bind ?_; wp_delta; show wpAny _ _ (newExc (.type "StopIteration") [] >>= _) _ _ _)
  refine wpAny_bind ?_; simp only [newExc, newTuple]
  refine wpAny_bind (wpAny_newObj_type ?_ (by size_fits)); refine wpAny_bind (m := firstArgMember _ _) (wpAny_of_eq (a := Value.none) (by first | rfl | (simp only [firstArgMember]; rfl)) ?_)
  refine wpAny_newObj_type ?_ (by size_fits); simp only [raiseNew]
  refine wpAny_bind (wpAny_handled ?_); first | rw [show A.in1.handled = none from hh] | rw [hh]
  refine wpAny_bind (wpAny_pure (wpAny_throw ?_))
  refine hE _ _ ?_ ⟨_, Heap.get?_push_size _ rfl, rfl⟩
  exact ((((Heap.SameBut.update ..).extBut.trans (Heap.SameBut.update ..).extBut).push _).push _)
theorem itemZ {z TI TO i1 i2 l1 l2 : Addr} {k1 k2 : Nat} {xs ys : Array Value} {x y a b : Value} {Q : Value → Shared → Prop} (D : ZipApart z TI TO i1 i2 l1 l2) (hz : IsZip s.heap z TI TO .none) (hTI : IsPair s.heap TI (.ref i1) (.ref i2)) (hTO : IsPair s.heap TO a b)
    (h1 : IsRt s.heap i1 l1 (k1 : Int)) (h2 : IsRt s.heap i2 l2 (k2 : Int)) (hl1 : IsTup s.heap l1 xs) (hl2 : IsTup s.heap l2 ys) (hx : xs[k1]? = some x) (hy : ys[k2]? = some y) (hn1 : xs.size ≤ sizeLine) (hn2 : ys.size ≤ sizeLine)
    (hQ : ∀ h', IsZip h' z TI TO (rawInt s.heap.objs.size) → IsPair h' TO x y → IsRt h' i1 l1 ((k1 : Int) - 1) → IsRt h' i2 l2 ((k2 : Int) - 1) → IsPair h' s.heap.objs.size x y → h'.objs.size = s.heap.objs.size + 1 →
      (∀ c o, c ≠ z → c ≠ TO → c ≠ i1 → c ≠ i2 → s.heap.get? c = some o → h'.get? c = some o) → Q (.ref s.heap.objs.size) { s with heap := h', toks := s.toks + 1 + 1 }) :
    wpAny (model prog w) A (Builtin.«zip.__next__» ⟨[.ref z], []⟩) (fun fin s' => ∃ v, fin = .done (.ret v) ∧ Q v s') E s := by
  have upT : ∀ {h h' : Heap} {t : Addr} {us : Array Value}, IsTup h t us → (∀ o, h.get? t = some o → h'.get? t = some o) → IsTup h' t us := fun q k => by
    obtain ⟨o, e, r⟩ := q
    exact ⟨o, k _ e, r⟩
  show wpAny _ _ (field (.ref z) 2 >>= _) _ _ _; refine wpAny_bind (wpAny_field hz rfl (x := .bool false) rfl ?_)
  show wpAny _ _ (field (.ref z) 3 >>= _) _ _ _; refine wpAny_bind (wpAny_field hz rfl (x := .ref TI) rfl ?_)
  refine wpAny_bind (wpAny_seqItems hTI rfl ?_); show wpAny _ _ (Builtin.SmallTypes.ownedTupleIsFree (.ref z) >>= _) _ _ _
  refine wpAny_bind ?_; unfold Builtin.SmallTypes.ownedTupleIsFree
  refine wpAny_bind (wpAny_field hz rfl (x := .none) rfl (wpAny_pure ?_)); simp only [if_true]
  refine wpAny_bind (wpAny_rule ?_); refine wpAny_bind (wpAny_field hz rfl (x := .ref TO) rfl ?_)
  refine wpAny_bind (wpAny_setField_rec hz (by simp) fun g1 z1 s1 => ?_); replace z1 : IsZip g1 z TI TO .ellipsis := z1
  refine wpAny_bind ?_; simp only [List.zipIdx_cons, List.zipIdx_nil, List.forIn_cons, List.forIn_nil]
  refine wpAny_bind (wpAny_bind (wpAny_onRaise ?_)); show wpAny _ _ (Builtin.SmallTypes.nextOf (.ref i1) >>= _) _ _ _
  refine wpAny_bind (nextR (h1.at fun o e => s1.extBut _ _ D.i1z e) (upT hl1 fun o e => s1.extBut _ _ D.l1z e) hx hn1 fun g2 w1 s2 => wpAny_pure ?_)
  have TO2 : IsPair g2 TO a b := s2.extBut _ _ D.TOi1 (s1.extBut _ _ D.TOz hTO)
  refine wpAny_bind (wpAny_seqItems TO2 rfl ?_); refine wpAny_bind (wpAny_updateSeq_pair TO2 fun g3 TO3 s3 => ?_)
  replace TO3 : IsPair g3 TO x b := TO3; refine wpAny_bind (wpAny_letGo (wpAny_pure ?_))
  refine wpAny_bind (wpAny_bind (wpAny_onRaise ?_)); show wpAny _ _ (Builtin.SmallTypes.nextOf (.ref i2) >>= _) _ _ _
  refine wpAny_bind (nextR (h2.at fun o e => s3.extBut _ _ D.TOi2.symm (s2.extBut _ _ D.i12.symm (s1.extBut _ _ D.i2z e))) (upT hl2 fun o e => s3.extBut _ _ D.l2TO (s2.extBut _ _ D.l2i1 (s1.extBut _ _ D.l2z e))) hy hn2 fun g4 w2 s4 => wpAny_pure ?_)
  have TO4 : IsPair g4 TO x b := s4.extBut _ _ D.TOi2 TO3
  refine wpAny_bind (wpAny_seqItems TO4 rfl ?_); refine wpAny_bind (wpAny_updateSeq_pair TO4 fun g5 TO5 s5 => ?_)
  replace TO5 : IsPair g5 TO x y := TO5; refine wpAny_bind (wpAny_letGo (wpAny_pure (wpAny_pure ?_)))
  refine wpAny_bind (wpAny_seqItems TO5 rfl ?_); refine wpAny_bind (wpAny_newTuple ?_)
  have hsz : g5.objs.size = s.heap.objs.size := s5.1.trans (s4.1.trans (s3.1.trans (s2.1.trans s1.1)))
  have z5 : IsZip g5 z TI TO .ellipsis := s5.extBut _ _ D.TOz.symm (s4.extBut _ _ D.i2z.symm (s3.extBut _ _ D.TOz.symm (s2.extBut _ _ D.i1z.symm z1)))
  have k5 : ∀ c o, c ≠ z → c ≠ TO → c ≠ i1 → c ≠ i2 → s.heap.get? c = some o → g5.get? c = some o := fun c o c1 c2 c3 c4 e => s5.extBut _ _ c2 (s4.extBut _ _ c4 (s3.extBut _ _ c2 (s2.extBut _ _ c3 (s1.extBut _ _ c1 e))))
  have r1 : IsRt g5 i1 l1 ((k1 : Int) - 1) := w1.at fun o e => s5.extBut _ _ D.TOi1.symm (s4.extBut _ _ D.i12 (s3.extBut _ _ D.TOi1.symm e))
  have r2 : IsRt g5 i2 l2 ((k2 : Int) - 1) := w2.at fun o e => s5.extBut _ _ D.TOi2.symm e
  have hzlt : z < g5.objs.size := Heap.lt_size z5
  show wpAny _ _ (Builtin.SmallTypes.ownedTupleHandOut (.ref z) (.ref g5.objs.size) >>= _) _ _ _; refine wpAny_bind ?_
  unfold Builtin.SmallTypes.ownedTupleHandOut; have z6 : IsZip (g5.push { cls := .type "tuple", data := .seq #[x, y] }) z TI TO .ellipsis := Heap.get?_push_of_some _ z5
  refine wpAny_bind (wpAny_setField_rec z6 (by simp) fun g7 z7 s7 => ?_); replace z7 : IsZip g7 z TI TO (rawInt g5.objs.size) := z7
  refine wpAny_setField_rec z7 (by simp) fun g8 z8 s8 => ?_; replace z8 : IsZip g8 z TI TO (rawInt g5.objs.size) := z8
  have up : ∀ c o, c ≠ z → g5.get? c = some o → g8.get? c = some o := fun c o c1 e => s8.extBut _ _ c1 (s7.extBut _ _ c1 (Heap.get?_push_of_some _ e))
  have T8 : IsPair g8 g5.objs.size x y := s8.extBut _ _ (Nat.ne_of_gt hzlt) (s7.extBut _ _ (Nat.ne_of_gt hzlt) (Heap.get?_push_size _ rfl))
  have n8 : g8.objs.size = g5.objs.size + 1 := s8.1.trans (s7.1.trans (Heap.size_push ..))
  rw [hsz] at z8 T8 n8; refine wpAny_pure ⟨_, rfl, ?_⟩
  show Q (.ref g5.objs.size) _; rw [hsz]
  exact hQ g8 z8 (up _ _ D.TOz TO5) (r1.at fun o e => up _ o D.i1z e) (r2.at fun o e => up _ o D.i2z e) T8 n8 fun c o c1 c2 c3 c4 e => up c o c1 (k5 c o c1 c2 c3 c4 e)
theorem endZ {z TI TO i1 i2 l1 l2 : Addr} {Q : Fin → Shared → Prop} (hh : A.handled = none) (D : ZipApart z TI TO i1 i2 l1 l2) (hz : IsZip s.heap z TI TO .none) (hTI : IsPair s.heap TI (.ref i1) (.ref i2)) (h1 : IsRt s.heap i1 l1 (-1))
    (hE : ∀ h' e, (∀ c o, c ≠ z → c ≠ TO → c ≠ i1 → c ≠ i2 → s.heap.get? c = some o → h'.get? c = some o) → (∃ o, h'.get? e = some o ∧ o.cls = .type "StopIteration") → E (.ref e) { s with heap := h' }) :
    wpAny (model prog w) A (Builtin.«zip.__next__» ⟨[.ref z], []⟩) Q E s := by
  show wpAny _ _ (field (.ref z) 2 >>= _) _ _ _; refine wpAny_bind (wpAny_field hz rfl (x := .bool false) rfl ?_)
  show wpAny _ _ (field (.ref z) 3 >>= _) _ _ _; refine wpAny_bind (wpAny_field hz rfl (x := .ref TI) rfl ?_)
  refine wpAny_bind (wpAny_seqItems hTI rfl ?_); show wpAny _ _ (Builtin.SmallTypes.ownedTupleIsFree (.ref z) >>= _) _ _ _
  refine wpAny_bind ?_; unfold Builtin.SmallTypes.ownedTupleIsFree
  refine wpAny_bind (wpAny_field hz rfl (x := .none) rfl (wpAny_pure ?_)); simp only [if_true]
  refine wpAny_bind (wpAny_rule ?_); refine wpAny_bind (wpAny_field hz rfl (x := .ref TO) rfl ?_)
  refine wpAny_bind (wpAny_setField_rec hz (by simp) fun g1 z1 s1 => ?_); replace z1 : IsZip g1 z TI TO .ellipsis := z1
  refine wpAny_bind ?_; simp only [List.zipIdx_cons, List.zipIdx_nil, List.forIn_cons, List.forIn_nil]
  refine wpAny_bind (wpAny_bind (wpAny_onRaise ?_)); show wpAny _ _ (Builtin.SmallTypes.nextOf (.ref i1) >>= _) _ _ _
  refine wpAny_bind (endR hh (h1.at fun o e => s1.extBut _ _ D.i1z e) fun g2 e s2 he => ?_)
  obtain ⟨oe, hoe, hce⟩ := he; have z2 : IsZip g2 z TI TO .ellipsis := s2 _ _ D.i1z.symm z1
  have ez : e ≠ z := fun q => by subst q; rw [z2] at hoe; cases hoe; simp at hce
  exact wpAny_setField_rec z2 (by simp) fun g3 _ s3 => hE g3 e (fun c o c1 _ c3 _ q => s3.extBut _ _ c1 (s2 _ _ c3 (s1.extBut _ _ c1 q))) ⟨oe, s3.extBut _ _ ez hoe, hce⟩
theorem pyItemZ {z TI TO i1 i2 l1 l2 : Addr} {k1 k2 : Nat} {xs ys : Array Value} {x y a b : Value} {Q : Option Value → Shared → Prop} (D : ZipApart z TI TO i1 i2 l1 l2) (hz : IsZip s.heap z TI TO .none) (hTI : IsPair s.heap TI (.ref i1) (.ref i2)) (hTO : IsPair s.heap TO a b)
    (h1 : IsRt s.heap i1 l1 (k1 : Int)) (h2 : IsRt s.heap i2 l2 (k2 : Int)) (hl1 : IsTup s.heap l1 xs) (hl2 : IsTup s.heap l2 ys) (hx : xs[k1]? = some x) (hy : ys[k2]? = some y) (hn1 : xs.size ≤ sizeLine) (hn2 : ys.size ≤ sizeLine)
    (hQ : ∀ h', IsZip h' z TI TO (rawInt s.heap.objs.size) → IsPair h' TO x y → IsRt h' i1 l1 ((k1 : Int) - 1) → IsRt h' i2 l2 ((k2 : Int) - 1) → IsPair h' s.heap.objs.size x y → h'.objs.size = s.heap.objs.size + 1 →
      (∀ c o, c ≠ z → c ≠ TO → c ≠ i1 → c ≠ i2 → s.heap.get? c = some o → h'.get? c = some o) → Q (some (.ref s.heap.objs.size)) { s with heap := h', toks := s.toks + 1 + 1 }) : wpAny (model prog w) A (pyNext (.ref z)) Q E s := by
  have hT : s.TypeIs (.ref z) "zip" := ⟨_, hz, rfl⟩; unfold pyNext
  exact wpAny_bind (wpAny_attempt (wpAny_callSpecial?_slot (name := Str.ofString "__next__") hT F.slot_zip_next (wpAny_call_entry F.slot_zip_next hT F.entry_zip_next (itemZ D hz hTI hTO h1 h2 hl1 hl2 hx hy hn1 hn2 fun h' a1 a2 a3 a4 a5 a6 a7 => wpAny_pure (hQ h' a1 a2 a3 a4 a5 a6 a7)) (F.args_zip_next_1 _))))
theorem pyEndZ {z TI TO i1 i2 l1 l2 : Addr} {Q : Option Value → Shared → Prop} (hh : A.handled = none) (D : ZipApart z TI TO i1 i2 l1 l2) (hz : IsZip s.heap z TI TO .none) (hTI : IsPair s.heap TI (.ref i1) (.ref i2)) (h1 : IsRt s.heap i1 l1 (-1))
    (hQ : ∀ h', (∀ c o, c ≠ z → c ≠ TO → c ≠ i1 → c ≠ i2 → s.heap.get? c = some o → h'.get? c = some o) → Q none { s with heap := h' }) : wpAny (model prog w) A (pyNext (.ref z)) Q E s := by
  have hT : s.TypeIs (.ref z) "zip" := ⟨_, hz, rfl⟩; unfold pyNext
  refine wpAny_bind (wpAny_attempt (wpAny_callSpecial?_slot (name := Str.ofString "__next__") hT F.slot_zip_next (wpAny_call_entry F.slot_zip_next hT F.entry_zip_next (endZ hh D hz hTI h1 fun h' e hk he => ?_) (F.args_zip_next_1 _))))
  obtain ⟨o, ho, hc⟩ := he; exact wpAny_bind (wpAny_isInstance (T := "StopIteration") (b := true) ⟨o, ho, hc⟩ isSubtype_stop (wpAny_pure (hQ _ hk)))
end
/-! ### the making -/
abbrev zH3 (h : Heap) (i1 i2 : Addr) : Heap := h.push { cls := .type "tuple", data := .seq #[.ref i1, .ref i2] }
abbrev zH4 (h : Heap) (i1 i2 : Addr) : Heap := (zH3 h i1 i2).push { cls := .type "tuple", data := .seq #[.none, .none] }
abbrev zH5 (h : Heap) (i1 i2 : Addr) : Heap := (zH4 h i1 i2).push { cls := .type "zip", data := .fields #[.none, .bool false, .bool false, .ref h.objs.size, .ref (zH3 h i1 i2).objs.size] }
theorem newZ (i1 i2 l1 l2 : Addr) (k1 k2 : Int) :
    Meets (Builtin.«zip.__new__» ⟨[.type "zip", .ref i1, .ref i2], []⟩) (fun _ R s => IsRt s.heap i1 l1 k1 ∧ IsRt s.heap i2 l2 k2 ∧ R (.ok (.ret (.ref (zH4 s.heap i1 i2).objs.size))) { s with heap := zH5 s.heap i1 i2 }) :=
  .of_wp fun prog w A R s h => by
    obtain ⟨hp, g, d, tk, os⟩ := s; obtain ⟨hl1, hl2, h⟩ := h
    have hsub := sub_zip
    have hL1 : IsRt (Shared.heap ⟨hp, g, d, tk, os⟩) i1 l1 k1 := hl1
    have hL2 : IsRt (Shared.heap ⟨hp, g, d, tk, os⟩) i2 l2 k2 := hl2
    wp_walk using iter_rt hL1, iter_rt hL2
    exact ⟨_, rfl, h⟩
section
variable {prog : Program} {w : World} {A : Around} {E : Value → Shared → Prop} {s : Shared}
theorem callZ {i1 i2 l1 l2 : Addr} {k1 k2 : Int} {Q : Value → Shared → Prop} (h1 : IsRt s.heap i1 l1 k1) (h2 : IsRt s.heap i2 l2 k2)
    (h : ∀ h', IsZip h' (s.heap.objs.size + 2) s.heap.objs.size (s.heap.objs.size + 1) .none → IsPair h' s.heap.objs.size (.ref i1) (.ref i2) → IsPair h' (s.heap.objs.size + 1) .none .none → h'.objs.size = s.heap.objs.size + 3 →
      (∀ c o, s.heap.get? c = some o → h'.get? c = some o) → Q (.ref (s.heap.objs.size + 2)) { s with heap := h' }) :
    wpAny (model prog w) A (call (.type "zip") [.ref i1, .ref i2]) Q E s := by
  refine callType_new F.called_zip (by decide) (F.typeCall_zip_2 _ _) (F.newCall_zip_2 _ _) (fun obj => F.args_object_init_3 obj _ _) F.entry_zip_new (newZ i1 i2 l1 l2 k1 k2) ⟨h1, h2, ?_⟩
  have z3 : (zH3 s.heap i1 i2).objs.size = s.heap.objs.size + 1 := Heap.size_push ..
  have z4 : (zH4 s.heap i1 i2).objs.size = s.heap.objs.size + 2 := by rw [Heap.size_push, z3]
  have z5 : (zH5 s.heap i1 i2).objs.size = s.heap.objs.size + 3 := by rw [Heap.size_push, z4]
  have g5 : (zH5 s.heap i1 i2).get? (zH4 s.heap i1 i2).objs.size = some _ := Heap.get?_push_size _ rfl
  have g4 : (zH5 s.heap i1 i2).get? (zH3 s.heap i1 i2).objs.size = some _ := Heap.get?_push_of_some _ (Heap.get?_push_size _ rfl)
  have g3 : (zH5 s.heap i1 i2).get? s.heap.objs.size = some _ := Heap.get?_push_of_some _ (Heap.get?_push_of_some _ (Heap.get?_push_size _ rfl))
  show _ ∧ _
  rw [z3, z4] at g5
  rw [z3] at g4
  rw [z4]
  exact ⟨⟨_, g5, rfl⟩, h _ g5 g3 g4 z5 fun c o x => Heap.get?_push_of_some _ (Heap.get?_push_of_some _ (Heap.get?_push_of_some _ x))⟩
end
/-! ### the walk -/
/-- tuples of n items at a and b, from behind, in new pairs -/
def ItzR (K : PySem.W.Frag) (a b : Addr) (n : Nat) : It :=
  ⟨fun i H => i < n ∧ ∃ (xs ys : List V) (x y : V), SqT K H a xs ∧ SqT K H b ys ∧ xs[n - 1 - i]? = some x ∧ ys[n - 1 - i]? = some y,
    fun i H v H' => ∃ T x y, v = .ref T ∧ H T = none ∧ H' = upd H T (.tup [x, y]) ∧ (∀ xs, SqT K H a xs → xs[n - 1 - i]? = some x) ∧ ∀ ys, SqT K H b ys → ys[n - 1 - i]? = some y, fun i H => n ≤ i⟩
theorem turnZ {P : Program} {w : World} {K : PySem.W.Frag} {elts : List Expr} {kk : Nat} {tpos : Pos} {a b z TI TO i1 i2 : Addr} {n : Nat} (D : ZipApart z TI TO i1 i2 a b) :
    Turn P w K (.Tuple elts kk tpos) (ItzR K a b n) [z, TI, TO, i1, i2] z (fun i h => IsZip h z TI TO .none ∧ IsPair h TI (.ref i1) (.ref i2) ∧ (∃ x y, IsPair h TO x y) ∧ At h i1 a n i ∧ At h i2 b n i) where
  mem := by simp
  obj := fun i h st c hc => by
    obtain ⟨hz, hTI, ⟨x, y, hTO⟩, ⟨_, o1, e1, _, d1⟩, ⟨_, o2, e2, _, d2⟩⟩ := st
    have ec : c = z ∨ c = TI ∨ c = TO ∨ c = i1 ∨ c = i2 := by simpa using hc
    rcases ec with rfl | rfl | rfl | rfl | rfl
    · exact ⟨_, hz, fun v q => nomatch q⟩
    · exact ⟨_, hTI, fun v q => nomatch q⟩
    · exact ⟨_, hTO, fun v q => nomatch q⟩
    · exact ⟨o1, e1, fun v q => by rw [d1] at q; cases q⟩
    · exact ⟨o2, e2, fun v q => by rw [d2] at q; cases q⟩
  keep := fun i h h' st k => by
    obtain ⟨hz, hTI, ⟨x, y, hTO⟩, h1, h2⟩ := st
    exact ⟨k z (by simp) _ hz, k TI (by simp) _ hTI, ⟨x, y, k TO (by simp) _ hTO⟩, ⟨h1.1, h1.2.at fun o q => k i1 (by simp) o q⟩, ⟨h2.1, h2.2.at fun o q => k i2 (by simp) o q⟩⟩
  item := by
    intro X hP hw hK hc i pins s σ H E I hf st hg
    subst hP hw hK
    obtain ⟨hz, hTI, ⟨x0, y0, hTO⟩, ⟨hin, h1⟩, ⟨_, h2⟩⟩ := st
    obtain ⟨hi, xs, ys, x, y, hqx, hqy, hx, hy⟩ := hg
    obtain ⟨its, rv, p, hl1⟩ := I.tuple hqx
    obtain ⟨its2, rv2, p2, hl2⟩ := I.tuple hqy
    obtain ⟨u, hu, ru⟩ := rv.get hx
    obtain ⟨u2, hu2, ru2⟩ := rv2.get hy
    have e1 : (n : Int) - 1 - ((i : Nat) : Int) = ((n - 1 - i : Nat) : Int) := by omega
    have e2 : ((n - 1 - i : Nat) : Int) - 1 = (n : Int) - 1 - ((i + 1 : Nat) : Int) := by omega
    rw [e1] at h1 h2
    have hzl : z < s.heap.objs.size := Heap.lt_size hz
    have b1 : its.toArray.size ≤ sizeLine := by rw [List.size_toArray, ← rv.length]; exact hl1
    have b2 : its2.toArray.size ≤ sizeLine := by rw [List.size_toArray, ← rv2.length]; exact hl2
    refine pyItemZ D hz hTI hTO h1 h2 p p2 (x := u) (y := u2) (by simpa using hu) (by simpa using hu2) b1 b2 fun h' z' TO' h1' h2' hT hsz hk => ?_
    rw [e2] at h1' h2'
    refine ⟨_, rfl, wpAny_letOwnedTupleGo_zip (s := { s with heap := h', toks := s.toks + 1 + 1 }) z' fun h'' z'' sb => ?_⟩
    have hT2 : h''.get? s.heap.objs.size = some { cls := .type "tuple", data := .seq #[u, u2] } := (sb.2 _ (Nat.ne_of_gt hzl)).trans hT
    have new : ObjOk X.prog X.w (upd H s.heap.objs.size (.tup [x, y])) h'' s.heap.objs.size (.tup [x, y]) := ⟨(by show 2 ≤ sizeLine; decide), [u, u2], .cons ru (.cons ru2 .nil), ⟨_, hT2, rfl, _, rfl⟩⟩
    have I1 : Inv X pins σ (upd H s.heap.objs.size (.tup [x, y])) { s with heap := h'', toks := s.toks + 1 + 1 } :=
      I.turnedNew (t' := s.toks + 1 + 1) (ch := [z, TI, TO, i1, i2]) (fun c o hb q => (sb.2 c (fun q' => hb (by simp [q']))).trans (hk c o (fun q' => hb (by simp [q'])) (fun q' => hb (by simp [q'])) (fun q' => hb (by simp [q'])) (fun q' => hb (by simp [q'])) q)) hf (Nat.le_refl _) new
    refine ⟨.ref s.heap.objs.size, _, I1, rfl, ⟨_, x, y, rfl, I.hok.fresh (Nat.le_refl _), rfl, fun l hl => by rw [I.tuple_inj hl hqx]; exact hx, fun l hl => by rw [I.tuple_inj hl hqy]; exact hy⟩, ⟨z'', ?_, ⟨u, u2, ?_⟩, ⟨hi, ?_⟩, ⟨hi, ?_⟩⟩, fun c hcm => ?_⟩
    · exact (sb.2 _ D.TIz).trans (hk _ _ D.TIz D.TITO D.TIi1 D.TIi2 hTI)
    · exact (sb.2 _ D.TOz).trans TO'
    · exact h1'.at fun o q => (sb.2 _ D.i1z).trans q
    · exact h2'.at fun o q => (sb.2 _ D.i2z).trans q
    · have hlt : c < s.heap.objs.size := by
        have ec : c = z ∨ c = TI ∨ c = TO ∨ c = i1 ∨ c = i2 := by simpa using hcm
        rcases ec with rfl | rfl | rfl | rfl | rfl
        · exact hzl
        · exact Heap.lt_size hTI
        · exact Heap.lt_size hTO
        · obtain ⟨_, q1, _⟩ := h1; exact Heap.lt_size q1
        · obtain ⟨_, q2, _⟩ := h2; exact Heap.lt_size q2
      rw [upd_ne (Nat.ne_of_lt hlt)]
      exact (hf c hcm).1
  done := by
    intro X hP hw hK hc i pins s σ H E I hf st hg
    subst hP hw hK
    obtain ⟨hz, hTI, ⟨x0, y0, hTO⟩, ⟨hin, h1⟩, h2⟩ := st
    have hge : n ≤ i := hg
    have e1 : (n : Int) - 1 - ((i : Nat) : Int) = -1 := by omega
    rw [e1] at h1
    exact pyEndZ (I.ok.hd hc) D hz hTI h1 fun h' hk => ⟨rfl, I.turnedL (t' := s.toks) (ch := [z, TI, TO, i1, i2]) (fun c o hb q => hk c o (fun q' => hb (by simp [q'])) (fun q' => hb (by simp [q'])) (fun q' => hb (by simp [q'])) (fun q' => hb (by simp [q'])) q) hf⟩
  self := fun A i s Q E st h => wpAny_pyIter_zip st.1 h
section
variable {X : Cx} {a b n : Nat} {xs ys : List V}
theorem walkZ {K : PySem.W.Frag} {a b : Addr} {xs ys : List V} (hl : xs.length = ys.length) : Walk (ItzR K a b xs.length) xs.length (fun H => SqT K H a xs ∧ SqT K H b ys) (YPair (fun i => xs[xs.length - 1 - i]?) (fun i => ys[xs.length - 1 - i]?)) := by
  refine ⟨fun i _ hi q => ⟨hi, xs, ys, xs[xs.length - 1 - i]'(by omega), ys[xs.length - 1 - i]'(by omega), q.1, q.2, ?_, ?_⟩, fun _ _ => Nat.le_refl _, fun i H v H' _ q y => ?_⟩
  · exact List.getElem?_eq_getElem _
  · exact List.getElem?_eq_getElem _
  · obtain ⟨T, x, z, h1, h2, h3, h4, h5⟩ := y
    exact ⟨T, x, z, h1, h2, h3, h4 xs q.1, h5 ys q.2⟩
/-- zip of two tuples -/
theorem walkT {K : PySem.W.Frag} {a b : Addr} {xs ys : List V} {n : Nat} (hn : n = min xs.length ys.length) : Walk (RZ.ItzT K a b) n (fun H => SqT K H a xs ∧ SqT K H b ys) (YPair (fun i => xs[i]?) (fun i => ys[i]?)) := by
  subst hn
  refine ⟨fun i _ hi q => ?_, fun _ q => ⟨xs, ys, q.1, q.2, (by omega)⟩, fun i H v H' _ q y => ?_⟩
  · have l1 : i < xs.length := by omega
    have l2 : i < ys.length := by omega
    exact ⟨xs, ys, xs[i], ys[i], q.1, q.2, List.getElem?_eq_getElem l1, List.getElem?_eq_getElem l2⟩
  · obtain ⟨T, x, z, h1, h2, h3, h4, h5⟩ := y
    exact ⟨T, x, z, h1, h2, h3, h4 xs q.1, h5 ys q.2⟩
end
end SxZ

set_option Elab.async false
set_option linter.all false
set_option maxRecDepth 100000
set_option maxHeartbeats 4000000
/-! Sx22: zip in the value semantics. -/
namespace Sx
open PySem PySem.Spec PyProof.Rows L2 RT
/-- zip(reversed(x), reversed(y)) -/
def iZipRA (K : PySem.W.Frag) (te te2 : TE) : TI := fun σ H R => te σ H fun v1 H1 => ∃ a xs, v1 = .ref a ∧ SqT K H1 a xs ∧ te2 σ H1 fun v2 H2 => ∃ b ys, v2 = .ref b ∧ SqT K H2 a xs ∧ SqT K H2 b ys ∧ xs.length = ys.length ∧ R (SxZ.ItzR K a b xs.length) H2
theorem apartR (i1 i2 m a b : Nat) (h1 : i1 < i2) (h2 : a < i1) (h3 : b < i2) (h4 : b ≠ i1) (hm : m = i2 + 1 := by rfl) : ZipApart (m + 2) m (m + 1) i1 i2 a b := by
  subst hm
  constructor <;> (show (_ : Nat) ≠ _; omega)
section
variable {X : Cx}
theorem pi_zipR {e e2 : Expr} {te te2 : TE} {p p1 p2 q1 q2 pos tpos : Pos} {elts : List Expr} {kk : Nat} (hg : Gl X "zip") (hm : X.mg "zip" = none) (hg2 : Gl X "reversed") (hm2 : X.mg "reversed" = none) (he : PE X e te) (he2 : PE X e2 te2)
    (h1 : starEach [e] X.env = (false, eval e X.env) :: starEach [] X.env := by rfl) (h2 : starEach [e2] X.env = (false, eval e2 X.env) :: starEach [] X.env := by rfl)
    (hs : starEach [.Call (.Name "reversed" p1) [e] [] q1, .Call (.Name "reversed" p2) [e2] [] q2] X.env = (false, eval (.Call (.Name "reversed" p1) [e] [] q1) X.env) :: starEach [.Call (.Name "reversed" p2) [e2] [] q2] X.env := by rfl)
    (hs2 : starEach [.Call (.Name "reversed" p2) [e2] [] q2] X.env = (false, eval (.Call (.Name "reversed" p2) [e2] [] q2) X.env) :: starEach [] X.env := by rfl) (hpl : (backTo pos (starEach [.Call (.Name "reversed" p2) [e2] [] q2] X.env)).any (·.1) = false := by rfl) :
    PI X (.Tuple elts kk tpos) (.Call (.Name "zip" p) [.Call (.Name "reversed" p1) [e] [] q1, .Call (.Name "reversed" p2) [e2] [] q2] [] pos) (iZipRA X.K te te2) := by
  refine ⟨fun pins s σ H R I h => ?_⟩
  refine Call_ (ld_blt I hg hm PyProof.Rows.boot_zip (PyProof.Rows.callWith_type1 (args_cons (Call_ (ld_blt I hg2 hm2 PyProof.Rows.boot_reversed (PyProof.Rows.callWith_type1 (args_cons (thn (he.run pins s σ H _ I h) fun u s1 ⟨v, H1, I1, r1, w1⟩ => args_nil ?_) h1) h1 rfl))) hs) hs hpl))
  obtain ⟨a, xs, rfl, hqa, w1⟩ := w1
  obtain rfl : u = Value.ref a := r1
  obtain ⟨its, rv, pt, hz⟩ := I1.tuple hqa
  have hl := rv.length
  have hn := line63
  refine call_reversed_tup pt (fun A E Q k => len_tuple pt (by simp only [List.size_toArray] <;> omega) k) ?_
  have I2 := ClX.pin_new (t' := s1.toks + 1 + 1) (a := s1.heap.objs.size) (o := rtObj a ((its.toArray.size : Int) - 1)) (h' := s1.heap.push (rtObj a ((its.toArray.size : Int) - 1))) I1 (fun b o e => Heap.get?_push_of_some _ e) (Nat.le_refl _) (Heap.get?_push_size _ rfl) (fun v q => nomatch q)
  refine args_cons (Call_ (ld_blt I2 hg2 hm2 PyProof.Rows.boot_reversed (PyProof.Rows.callWith_type1 (args_cons (thn (he2.run _ _ σ H1 _ I2 w1) fun u2 s2 ⟨v2, H2, I3, r3, w2⟩ => args_nil ?_) h2) h2 rfl))) hs2
  obtain ⟨b, ys, rfl, hqa2, hqb, hlen, w2⟩ := w2
  obtain rfl : u2 = Value.ref b := r3
  obtain ⟨its2, rv2, pt2, hz2⟩ := I3.tuple hqb
  have hl2 := rv2.length
  have at1 : s2.heap.get? s1.heap.objs.size = some (rtObj a ((its.toArray.size : Int) - 1)) := ClX.pin_at I3
  have I4 := ClX.unpin I3
  have free1 : H2 s1.heap.objs.size = none := ClX.pin_un I3
  have big : s1.heap.objs.size < s2.heap.objs.size := Heap.lt_size at1
  have alt : a < s1.heap.objs.size := by obtain ⟨o, e, _⟩ := id pt; exact Heap.lt_size e
  have blt : b < s2.heap.objs.size := by obtain ⟨o, e, _⟩ := id pt2; exact Heap.lt_size e
  have bne : b ≠ s1.heap.objs.size := fun q => by
    obtain ⟨o, e, hc, _⟩ := id pt2
    rw [q, at1] at e
    cases e
    simp [rtObj] at hc
  refine call_reversed_tup pt2 (fun A E Q k => len_tuple pt2 (by simp only [List.size_toArray] <;> omega) k) (args_nil ?_)
  have sz3 : (s2.heap.push (rtObj b ((its2.toArray.size : Int) - 1))).objs.size = s2.heap.objs.size + 1 := Heap.size_push ..
  have is1 : IsRt (s2.heap.push (rtObj b ((its2.toArray.size : Int) - 1))) s1.heap.objs.size a ((its.toArray.size : Int) - 1) := ⟨_, Heap.get?_push_of_some _ at1, rfl, rfl⟩
  have is2 : IsRt (s2.heap.push (rtObj b ((its2.toArray.size : Int) - 1))) s2.heap.objs.size b ((its2.toArray.size : Int) - 1) := ⟨_, Heap.get?_push_size _ rfl, rfl, rfl⟩
  refine SxZ.callZ (s := { s2 with heap := s2.heap.push (rtObj b ((its2.toArray.size : Int) - 1)), toks := s2.toks + 1 + 1 }) is1 is2 fun h' hzip hTI hTO hsz hk => wpAny_pyIter_zip hzip ?_
  have up : ∀ c o, s2.heap.get? c = some o → h'.get? c = some o := fun c o q => hk c o (Heap.get?_push_of_some _ q)
  have I5 : Inv X pins σ H2 { s2 with heap := h', toks := s2.toks + 1 + 1 } := I4.kept (t' := s2.toks + 1 + 1) up
  have e1 : ((its.toArray.size : Nat) : Int) - 1 = (xs.length : Int) - 1 - ((0 : Nat) : Int) := by simp only [List.size_toArray]; omega
  have e2 : ((its2.toArray.size : Nat) : Int) - 1 = (xs.length : Int) - 1 - ((0 : Nat) : Int) := by simp only [List.size_toArray]; omega
  have r1 : IsRt h' s1.heap.objs.size a ((xs.length : Int) - 1 - ((0 : Nat) : Int)) := by rw [← e1]; exact is1.at fun o q => hk _ o q
  have r2 : IsRt h' s2.heap.objs.size b ((xs.length : Int) - 1 - ((0 : Nat) : Int)) := by rw [← e2]; exact is2.at fun o q => hk _ o q
  dsimp only at hzip hTI hTO hsz
  rw [sz3] at hzip hTI hTO
  have D : ZipApart (s2.heap.objs.size + 1 + 2) (s2.heap.objs.size + 1) (s2.heap.objs.size + 1 + 1) s1.heap.objs.size s2.heap.objs.size a b := by
    exact apartR _ _ _ _ _ big alt blt bne
  refine ⟨s2.heap.objs.size + 1 + 2, [s2.heap.objs.size + 1 + 2, s2.heap.objs.size + 1, s2.heap.objs.size + 1 + 1, s1.heap.objs.size, s2.heap.objs.size], _, _, H2, by rw [sz3], I5, SxZ.turnZ D, ⟨hzip, hTI, ⟨_, _, hTO⟩, ⟨Nat.zero_le _, r1⟩, ⟨Nat.zero_le _, r2⟩⟩, fun c hcm => ?_, w2⟩
  have ec : c = s2.heap.objs.size + 1 + 2 ∨ c = s2.heap.objs.size + 1 ∨ c = s2.heap.objs.size + 1 + 1 ∨ c = s1.heap.objs.size ∨ c = s2.heap.objs.size := by simpa using hcm
  have hi : ∀ {c : Addr}, s2.heap.objs.size ≤ c → FpOk X pins H2 c := fun hle => I4.fpOk hle (I4.hok.fresh hle)
  rcases ec with rfl | rfl | rfl | rfl | rfl
  · exact hi (by omega)
  · exact hi (by omega)
  · exact hi (by omega)
  · exact I1.fpOk (Nat.le_refl _) free1
  · exact hi (Nat.le_refl _)
end
/-! ### in the semantics -/
theorem zip_at : ∀ (xs ys : List D) (i : Nat) (x y : D), xs[i]? = some x → ys[i]? = some y → (zipD xs ys)[i]? = some (.tup [x, y])
  | [], _, _, _, _, h, _ => by simp at h
  | _ :: _, [], _, _, _, _, h => by simp at h
  | x :: xs, y :: ys, 0, _, _, h, h' => by simp at h h'; subst h h'; simp [zipD]
  | x :: xs, y :: ys, i + 1, a, b, h, h' => by
    rw [zipD, List.getElem?_cons_succ]
    exact zip_at xs ys i a b (by simpa using h) (by simpa using h')
theorem zip_len : ∀ (xs ys : List D), (zipD xs ys).length = min xs.length ys.length
  | [], _ => by simp [zipD]
  | _ :: _, [] => by simp [zipD]
  | x :: xs, y :: ys => by
    rw [zipD, List.length_cons, zip_len xs ys, List.length_cons, List.length_cons]
    omega
section
variable {X : Cx} {C : Cs} {W : WX} {pos p : Pos} {e e2 : Expr} {f f2 : E}
theorem si_zip2 {elts : List Expr} {kk : Nat} {tpos : Pos} (hg : Gl X "zip") (hm : X.mg "zip" = none) (he : SE X C W e f) (he2 : SE X C W e2 f2) (hs : starEach [e, e2] X.env = (false, eval e X.env) :: starEach [e2] X.env := by rfl)
    (hs2 : starEach [e2] X.env = (false, eval e2 X.env) :: starEach [] X.env := by rfl) (hpl : (backTo pos (starEach [e2] X.env)).any (·.1) = false := by rfl) : SI X C W (.Tuple elts kk tpos) (.Call (.Name "zip" p) [e, e2] [] pos) (iZip2 f f2) := by
  refine pi_imp (RZ.pi_zipA hg hm (sa_cons he (sa_cons he2 sa_nil hs2) hs) hs hpl) ?_
  rintro σ H R ⟨F0, H0, F, ρ, g, rel, h⟩
  unfold iZip2 at h
  rw [onOk_bind] at h
  refine ⟨F0, H0, F, ρ, g, rel, onOk_mono h (fun ds g1 h1 vs F1 H1 a1 r1 => ?_) fun x g1 h1 => h1⟩
  split at h1
  · rename_i xs ys
    cases r1 with
    | cons r1 r => cases r with
      | cons r2 r =>
        cases r
        cases r1 with
        | lst hf hz rr =>
          rename_i a us
          cases r2 with
          | lst hf2 hz2 rr2 =>
            rename_i b ws
            refine ⟨a, b, us, ws, rfl, .inl ⟨SqL.of (a1.stp.le _ _ hf), SqL.of (a1.stp.le _ _ hf2), h1 _ F1 H1 a1 ?_⟩⟩
            unfold WalkD
            rw [zip_len, ← rr.length, ← rr2.length]
            refine (walk_zip rfl).mono (fun H l => ⟨SqL.of (l _ _ hf), SqL.of (l _ _ hf2)⟩) fun i H x H' hi _ y F l1 l => ?_
            obtain ⟨T, x1, y1, rfl, hT, rfl, e1, e2⟩ := y
            obtain ⟨d, hd, rd⟩ := rr.getV e1
            obtain ⟨d2, hd2, rd2⟩ := rr2.getV e2
            obtain ⟨F', q, r⟩ := pair_at l1 l hT rd rd2
            exact ⟨F', _, q, zip_at _ _ _ _ _ hd hd2, r⟩
  · rename_i xs ys
    cases r1 with
    | cons r1 r => cases r with
      | cons r2 r =>
        cases r
        cases r1 with
        | tup hf hz rr =>
          rename_i a us
          cases r2 with
          | tup hf2 hz2 rr2 =>
            rename_i b ws
            refine ⟨a, b, us, ws, rfl, .inr ⟨SqT.of (a1.stp.le _ _ hf), SqT.of (a1.stp.le _ _ hf2), h1 _ F1 H1 a1 ?_⟩⟩
            unfold WalkD
            rw [zip_len, ← rr.length, ← rr2.length]
            refine (SxZ.walkT rfl).mono (fun H l => ⟨SqT.of (l _ _ hf), SqT.of (l _ _ hf2)⟩) fun i H x H' hi _ y F l1 l => ?_
            obtain ⟨T, x1, y1, rfl, hT, rfl, e1, e2⟩ := y
            obtain ⟨d, hd, rd⟩ := rr.getV e1
            obtain ⟨d2, hd2, rd2⟩ := rr2.getV e2
            obtain ⟨F', q, r⟩ := pair_at l1 l hT rd rd2
            exact ⟨F', _, q, zip_at _ _ _ _ _ hd hd2, r⟩
  · exact h1.elim
theorem si_zipR {elts : List Expr} {kk : Nat} {tpos p1 p2 q1 q2 : Pos} (hg : Gl X "zip") (hm : X.mg "zip" = none) (hg2 : Gl X "reversed") (hm2 : X.mg "reversed" = none) (he : SE X C W e f) (he2 : SE X C W e2 f2)
    (h1 : starEach [e] X.env = (false, eval e X.env) :: starEach [] X.env := by rfl) (h2 : starEach [e2] X.env = (false, eval e2 X.env) :: starEach [] X.env := by rfl)
    (hs : starEach [.Call (.Name "reversed" p1) [e] [] q1, .Call (.Name "reversed" p2) [e2] [] q2] X.env = (false, eval (.Call (.Name "reversed" p1) [e] [] q1) X.env) :: starEach [.Call (.Name "reversed" p2) [e2] [] q2] X.env := by rfl)
    (hs2 : starEach [.Call (.Name "reversed" p2) [e2] [] q2] X.env = (false, eval (.Call (.Name "reversed" p2) [e2] [] q2) X.env) :: starEach [] X.env := by rfl) (hpl : (backTo pos (starEach [.Call (.Name "reversed" p2) [e2] [] q2] X.env)).any (·.1) = false := by rfl) :
    SI X C W (.Tuple elts kk tpos) (.Call (.Name "zip" p) [.Call (.Name "reversed" p1) [e] [] q1, .Call (.Name "reversed" p2) [e2] [] q2] [] pos) (iZipR f f2) := by
  refine pi_imp (pi_zipR hg hm hg2 hm2 he he2 h1 h2 hs hs2 hpl) ?_
  rintro σ H R ⟨F0, H0, F, ρ, g, rel, h⟩
  unfold iZipR at h
  rw [onOk_bind] at h
  refine ⟨F0, H0, F, ρ, g, rel, onOk_mono h (fun b g1 h3 v F1 H1 a1 r1 => ?_) fun x g1 h1 => h1⟩
  split at h3
  · rename_i xs
    have r1 : Rep C F1 v (.tup xs) := r1
    cases r1 with
    | tup hf hz rr =>
      rename_i a us
      rw [onOk_bind] at h3
      have rel1 := rel.step a1
      refine ⟨a, us, rfl, SqT.of (a1.stp.le _ _ hf), F0, H0, F1, ρ, g1, rel1, onOk_mono h3 (fun c g2 h4 v2 F2 H2 a2 r2 => ?_) fun x g2 h4 cls d F2 H2 a2 e2 => h4 cls d F2 H2 (a1.trans a2) e2⟩
      split at h4
      · rename_i ys
        have r2 : Rep C F2 v2 (.tup ys) := r2
        split at h4
        · rename_i hlen
          cases r2 with
          | tup hf2 hz2 rr2 =>
            rename_i b ws
            have hf' := a2.stp.ff _ _ hf
            have rr' := rr.le a2.stp.ff
            have hl : us.length = ws.length := by rw [rr.length, rr2.length, hlen]
            refine ⟨b, ws, rfl, SqT.of (a2.stp.le _ _ hf'), SqT.of (a2.stp.le _ _ hf2), hl, h4 _ F2 H2 (a1.trans a2) ?_⟩
            unfold WalkD
            have hn : (zipD xs.reverse ys.reverse).length = us.length := by rw [zip_len, List.length_reverse, List.length_reverse, ← rr.length, ← rr2.length, ← hl, Nat.min_self]
            rw [hn]
            refine (SxZ.walkZ hl).mono (fun H l => ⟨SqT.of (l _ _ hf'), SqT.of (l _ _ hf2)⟩) fun i H x H' hi _ y F l1 l => ?_
            obtain ⟨T, x1, y1, rfl, hT, rfl, e1, e2⟩ := y
            have e1 : us[us.length - 1 - i]? = some x1 := e1
            have e2 : ws[us.length - 1 - i]? = some y1 := e2
            rw [rev_at hi] at e1
            rw [hl, rev_at (by rw [← hl]; exact hi)] at e2
            obtain ⟨d, hd, rd⟩ := rr'.reverse.getV e1
            obtain ⟨d2, hd2, rd2⟩ := rr2.reverse.getV e2
            obtain ⟨F', q, r⟩ := pair_at l1 l hT rd rd2
            exact ⟨F', _, q, zip_at _ _ _ _ _ hd hd2, r⟩
        · exact h4.elim
      · exact h4.elim
  · exact h3.elim
end
end Sx

set_option Elab.async false
set_option linter.all false
set_option maxRecDepth 100000
set_option maxHeartbeats 4000000
/-! Sx23: what `_law_mixed`, `_law_draw` answer. -/
namespace Sx
open PySem
def bMixed : S :=
  sSeq (sAsg 0 (eBin oMod (eUn oInt (eVar 0)) (eVal (.int 2147483647))))
    (sRet (eBin oMod (eBin oMul (eBin oMod (eBin oAdd (eBin oAdd (eBin oMul (eVar 0) (eBin oAdd (eVal (.int 48271)) (eBin oMul (eBin oMul (eVal (.int 2)) (eVar 1)) (eVar 1)))) (eBin oMul (eVal (.int 69621)) (eVar 1))) (eVal (.int 11))) (eVal (.int 2147483647))) (eVal (.int 69621))) (eVal (.int 2147483629))))
def mMixed : Fn := fnOf 2 2 bMixed
def bDraw : S :=
  sSeq (sAsg 2 (eStAt 0)) (sSeq (sStAt 0 (eBin oAdd (eVar 2) (eVal (.int 1)))) (sSeq (sAsg 3 (eBin oMod (eUn oInt (eVar 2)) (eStLen 0))) (sSeq (sAsg 4 (eStRow true 0 (eVar 3)))
    (sSeq (sIf (eBin oGt (eVar 4) (eVal (.int 0))) (sSeq (sStLeft 0 (eVar 3) (eBin oDiv (eVar 4) (eVar 1))) (sRet (eBin oMod (eUn oInt (eVar 4)) (eVar 1)))) sPass)
      (sSeq (sAsg 5 (eCall mMixed [(eCall mMixed [(eStRow false 0 (eVar 3)), (eVar 2)]), (eBin oAdd (eVal (.int 40)) (eVar 2))]))
        (sSeq (sFreeze 5) (sRet (eBin oMod (eBin oDiv (eUn oInt (eBin oAdd (eBin oMul (eVar 5) (eVal (.int 2147483647))) (eCall mMixed [(eVar 5), (eBin oAdd (eVal (.int 7)) (eVar 2))]))) (eVal (.int 64))) (eVar 1)))))))))
def mDraw : Fn := fnOf 2 6 bDraw
theorem log_lt {n k : Nat} (h : n < 2 ^ (k + 1)) : n.log2 < k + 1 := by
  by_cases z : n = 0
  · subst z
    have e : Nat.log2 0 = 0 := by decide
    omega
  · exact (Nat.log2_lt z).mpr h
theorem mulOk_of {i j : Int} (hi : i.natAbs < 2 ^ 1000) (hj : j.natAbs < 2 ^ 1000) : mulOk i j = true := by
  have a := log_lt (k := 999) hi
  have b := log_lt (k := 999) hj
  unfold mulOk
  exact decide_eq_true (by omega)
/-- the size of the draws' numbers -/
theorem mulOk_s {i j : Int} (hi : -(2 ^ 200) ≤ i ∧ i ≤ 2 ^ 200) (hj : -(2 ^ 200) ≤ j ∧ j ≤ 2 ^ 200) : mulOk i j = true := by
  have p : (2 : Nat) ^ 200 < 2 ^ 1000 := Nat.pow_lt_pow_right (by decide) (by decide)
  have e : ((2 ^ 200 : Nat) : Int) = 2 ^ 200 := by norm_cast
  exact mulOk_of (by omega) (by omega)
theorem mixed_ok (c k : Int) (h0 : 0 ≤ k) (h1 : k ≤ 2 ^ 40) (g : G) : ∃ r, mMixed [.int c, .int k] g = .ok (sh (.int r)) g ∧ 0 ≤ r ∧ r < 2147483629 := by
  have q0 : 0 ≤ c.fmod 2147483647 := Int.fmod_nonneg_of_pos _ (by decide)
  have q1 : c.fmod 2147483647 < 2147483647 := Int.fmod_lt_of_pos _ (by decide)
  generalize hd : c.fmod 2147483647 = d at q0 q1
  have kk0 : 0 ≤ 2 * k * k := Int.mul_nonneg (by omega) h0
  have kk1 : 2 * k * k ≤ 2 ^ 81 := by
    calc 2 * k * k ≤ (2 * 2 ^ 40) * 2 ^ 40 := Int.mul_le_mul (by omega) h1 h0 (by decide)
      _ = 2 ^ 81 := by decide
  have m1 : mulOk 2 k = true := mulOk_s (by omega) (by omega)
  have m2 : mulOk (2 * k) k = true := mulOk_s (by omega) (by omega)
  have m3 : mulOk d (48271 + 2 * k * k) = true := mulOk_s (by omega) (by omega)
  have m4 : mulOk 69621 k = true := mulOk_s (by omega) (by omega)
  generalize he : (d * (48271 + 2 * k * k) + 69621 * k + 11).fmod 2147483647 = e
  have e0 : 0 ≤ e := by rw [← he]; exact Int.fmod_nonneg_of_pos _ (by decide)
  have e1 : e < 2147483647 := by rw [← he]; exact Int.fmod_lt_of_pos _ (by decide)
  have m5 : mulOk e 69621 = true := mulOk_s (by omega) (by omega)
  refine ⟨(e * 69621).fmod 2147483629, ?_, Int.fmod_nonneg_of_pos _ (by decide), Int.fmod_lt_of_pos _ (by decide)⟩
  simp [mMixed, fnOf, bMixed, sSeq, sAsg_0, sAsg0, eBin, eUn, eVar, eVal, oInt, oMod, oMul, oAdd, R.bind, onR, ends, sRet, ro0, hd, he, m1, m2, m3, m4, m5]
/-- the state of the draws, n drawn at most -/
structure GOk (gs : GS) (n : Int) : Prop where
  cells : gs.cells ≠ []
  lefts : gs.lefts.length = gs.cells.length
  pos : 0 ≤ gs.pos
  few : gs.pos ≤ n
theorem at_ok {is : List Int} {i : Int} (h0 : 0 ≤ i) (h1 : i < is.length) : ∃ x, ixN' is.length i = some i.toNat ∧ atZ is i = some x := by
  have e : ixN' is.length i = some i.toNat := by unfold ixN'; rw [if_pos h0, if_pos h1]
  refine ⟨is[i.toNat]'(by omega), e, ?_⟩
  unfold atZ
  rw [e]
  exact List.getElem?_eq_getElem (by omega)
theorem draw_ok {gs : GS} {n l : Int} (G : GOk gs n) (hn : n ≤ 2 ^ 30) (hl : 0 < l) (hl2 : l ≤ 2 ^ 200) :
    ∃ r gs', mDraw [.st, .int l] (some gs) = .ok (sh (.int r)) (some gs') ∧ (0 ≤ r ∧ r < l) ∧ GOk gs' (n + 1) := by
  obtain ⟨hc, hle, hp0, hp1⟩ := G
  have cl : 0 < gs.cells.length := by cases h : gs.cells with | nil => exact (hc h).elim | cons _ _ => simp
  have cl' : (0 : Int) < (gs.cells.length : Int) := by omega
  have i0 : 0 ≤ gs.pos.fmod gs.cells.length := Int.fmod_nonneg_of_pos _ cl'
  have i1 : gs.pos.fmod gs.cells.length < gs.cells.length := Int.fmod_lt_of_pos _ cl'
  obtain ⟨x, ex, ax⟩ := at_ok (is := gs.lefts) i0 (by rw [hle]; exact i1)
  obtain ⟨y, ey, ay⟩ := at_ok (is := gs.cells) i0 i1
  have nz : (gs.cells.length : Int) ≠ 0 := by omega
  have nl : l ≠ 0 := by omega
  have dl : divOk l = true := by
    have := log_lt (n := l.natAbs) (k := 200) (by have : ((2 ^ 201 : Nat) : Int) = 2 ^ 201 := by norm_cast
                                                  omega)
    unfold divOk
    exact decide_eq_true ⟨nl, by omega⟩
  have d64 : divOk 64 = true := by decide
  by_cases hx : 0 < x
  · refine ⟨x.fmod l, { cells := gs.cells, lefts := gs.lefts.set (gs.pos.fmod gs.cells.length).toNat (x.fdiv l), pos := gs.pos + 1 }, ?_, ⟨Int.fmod_nonneg_of_pos _ hl, Int.fmod_lt_of_pos _ hl⟩, ⟨hc, by rw [List.length_set]; exact hle, by show 0 ≤ gs.pos + 1; omega, by show gs.pos + 1 ≤ n + 1; omega⟩⟩
    simp [mDraw, fnOf, bDraw, sSeq, sAsg_0, sAsg0, eBin, eUn, eVar, eVal, oInt, oMod, oMul, oAdd, oDiv, oGt, R.bind, onR, ends, sRet, sIf, sPass, ro0, eStAt, eStLen, eStRow, sStAt, sStLeft, isSt, ax, ex, hx, dl, nl, nz, Nat.ne_of_gt cl, hc]
  · obtain ⟨r1, e1, a1, b1⟩ := mixed_ok y gs.pos hp0 (by omega) (some { cells := gs.cells, lefts := gs.lefts, pos := gs.pos + 1 })
    obtain ⟨r2, e2, a2, b2⟩ := mixed_ok r1 (40 + gs.pos) (by omega) (by omega) (some { cells := gs.cells, lefts := gs.lefts, pos := gs.pos + 1 })
    obtain ⟨r3, e3, a3, b3⟩ := mixed_ok r2 (7 + gs.pos) (by omega) (by omega) (some { cells := gs.cells, lefts := gs.lefts, pos := gs.pos + 1 })
    have m1 : mulOk r2 2147483647 = true := mulOk_s (by omega) (by omega)
    refine ⟨((r2 * 2147483647 + r3).fdiv 64).fmod l, { cells := gs.cells, lefts := gs.lefts, pos := gs.pos + 1 }, ?_, ⟨Int.fmod_nonneg_of_pos _ hl, Int.fmod_lt_of_pos _ hl⟩, ⟨hc, hle, by show 0 ≤ gs.pos + 1; omega, by show gs.pos + 1 ≤ n + 1; omega⟩⟩
    simp [mDraw, fnOf, bDraw, sSeq, sAsg_0, sAsg0, eBin, eUn, eVar, eVal, oInt, oMod, oMul, oAdd, oDiv, oGt, R.bind, onR, ends, sRet, sIf, sPass, ro0, eStAt, eStLen, eStRow, sStAt, sStLeft, isSt, ax, ay, ex, hx, dl, d64, nl, nz, Nat.ne_of_gt cl, hc, eCall_0, eCall0, eArgs, e1, e2, e3, m1, sFreeze]
theorem gs0_ok (ns : List Int) : GOk (gs0 ns) 0 := by
  refine ⟨?_, ?_, Int.le_refl _, Int.le_refl _⟩
  · unfold gs0 cells0
    dsimp only
    split
    · simp
    · assumption
  · unfold gs0
    simp
end Sx

set_option Elab.async false
set_option linter.all false
set_option maxRecDepth 100000
set_option maxHeartbeats 4000000
/-! Sx24: enumerate of a tuple. -/
namespace SxZ
open PySem PySem.Spec PyProof.Rows L2 RT
open AutoSeq1 (wpAny_loadPart')
open PySem.Sem (wp)
theorem newE (l : Addr) (items : Array Value) (n : Nat) (dct : Option Addr) (sl : Array (Option Value)) :
    Meets (Builtin.«enumerate.__new__» ⟨[.type "enumerate", .ref l], []⟩) (fun _ R s => s.heap.get? l = some { cls := .type "tuple", dict := dct, data := .seq items n, slots := sl } ∧
      R (.ok (.ret (.ref (s.heap.push { cls := .type "tuple_iterator", data := .fields #[.ref l, .int 0 0] }).objs.size))) { s with heap := (s.heap.push { cls := .type "tuple_iterator", data := .fields #[.ref l, .int 0 0] }).push { cls := .type "enumerate", data := .fields #[.none, .bool false, .ref s.heap.objs.size, rawInt 0, .none, .none] } }) :=
  .of_wp fun prog w A R s h => by
    obtain ⟨hp, g, d, tk, os⟩ := s; obtain ⟨hl, h⟩ := h; have hsub := sub_enumerate
    have hT : Heap.IsTuple (Shared.heap ⟨hp, g, d, tk, os⟩) l items := ⟨_, hl, rfl, n, rfl⟩
    wp_walk using wpAny_loadPart' hl
    refine wpAny_stack_any fun st => wpAny_pure ?_; split
    · rename_i c _ _ _ _ _
      cases (c == Value.type "enumerate")
      · wp_walk using wpAny_loadPart' hl, wpAny_pyIter_tuple hT
        exact ⟨_, rfl, h⟩
      · wp_walk using wpAny_loadPart' hl, wpAny_pyIter_tuple hT
        exact ⟨_, rfl, h⟩
    · wp_walk using wpAny_loadPart' hl, wpAny_pyIter_tuple hT
      exact ⟨_, rfl, h⟩
section
variable {prog : Program} {w : World} {A : Around} {E : Value → Shared → Prop} {s : Shared}
theorem callE {l : Addr} {items : Array Value} {Q : Value → Shared → Prop} (hL : s.heap.IsTuple l items)
    (h : ∀ h', IsEnum h' (s.heap.objs.size + 1) s.heap.objs.size 0 .none → h'.IsTupleIter s.heap.objs.size l 0 → h'.objs.size = s.heap.objs.size + 2 → (∀ b o, s.heap.get? b = some o → h'.get? b = some o) → Q (.ref (s.heap.objs.size + 1)) { s with heap := h' }) :
    wpAny (model prog w) A (call (.type "enumerate") [.ref l]) Q E s := by
  obtain ⟨⟨c, dct, dt, sl⟩, hl, hc, n, hd⟩ := hL
  have hc : c = .type "tuple" := hc
  have hd : dt = .seq items n := hd
  subst hc hd
  refine callType_new F.called_enumerate (by decide) (F.typeCall_enumerate_1 _) (F.newCall_enumerate_1 _) (fun obj => F.args_object_init_2 obj _) F.entry_enumerate_new (newE l items n dct sl) ⟨hl, ?_⟩
  have hz : (s.heap.push { cls := .type "tuple_iterator", data := .fields #[.ref l, .int 0 0] }).objs.size = s.heap.objs.size + 1 := Heap.size_push ..
  have ge := Heap.get?_push_size (s.heap.push { cls := .type "tuple_iterator", data := .fields #[.ref l, .int 0 0] }) (o := { cls := .type "enumerate", data := .fields #[.none, .bool false, .ref s.heap.objs.size, rawInt 0, .none, .none] }) rfl
  show _ ∧ _
  rw [hz] at ge ⊢
  refine ⟨⟨_, ge, rfl⟩, h _ ge ⟨_, Heap.get?_push_of_some _ (Heap.get?_push_size _ rfl), rfl, rfl⟩ ?_ fun b o x => Heap.get?_push_of_some _ (Heap.get?_push_of_some _ x)⟩
  rw [Heap.size_push, hz]
end
/-- the tuple at a as it stands at each turn, each item in a new pair -/
def IteT (K : PySem.W.Frag) (a : Addr) : It :=
  ⟨fun i H => ∃ (xs : List V) (x : V), SqT K H a xs ∧ xs[i]? = some x, fun i H v H' => ∃ T x, v = .ref T ∧ H T = none ∧ H' = upd H T (.tup [.int (i : Nat), x]) ∧ ∀ xs, SqT K H a xs → xs[i]? = some x, fun i H => ∃ xs : List V, SqT K H a xs ∧ xs.length = i⟩
theorem turnE {P : Program} {w : World} {K : PySem.W.Frag} {elts : List Expr} {kk : Nat} {tpos : Pos} (a e it : Addr) :
    Turn P w K (.Tuple elts kk tpos) (IteT K a) [e, it] e (fun i h => (∃ old, IsEnum h e it ((i : Nat) : Int) old) ∧ h.IsTupleIter it a i ∧ e ≠ it ∧ a ≠ it ∧ e ≠ a) where
  mem := by simp
  obj := fun i h st b hb => by
    obtain ⟨⟨old, he⟩, ⟨o, ho, hc, hd⟩, _⟩ := st
    have eb : b = e ∨ b = it := by simpa using hb
    rcases eb with rfl | rfl
    · exact ⟨_, he, fun v q => nomatch q⟩
    · exact ⟨o, ho, fun v q => by rw [hd] at q; cases q⟩
  keep := fun i h h' st k => let ⟨⟨old, he⟩, hi, hne⟩ := st; ⟨⟨old, k e (by simp) _ he⟩, hi.at fun o q => k it (by simp) o q, hne⟩
  item := by
    intro X hP hw hK hc i pins s σ H E I hf st hg
    subst hP hw hK
    obtain ⟨⟨old, he⟩, hit, hne, hai, hea⟩ := st
    obtain ⟨xs, x, hq, hx⟩ := hg
    obtain ⟨its, rv, p, hz⟩ := I.tuple hq
    obtain ⟨u, hu, ru⟩ := rv.get hx
    have hel : e < s.heap.objs.size := Heap.lt_size he
    have hil : it < s.heap.objs.size := by obtain ⟨_, q, _⟩ := hit; exact Heap.lt_size q
    have hlt : i < its.toArray.size := (Array.getElem?_eq_some_iff.mp (show its.toArray[i]? = some u by simpa using hu)).1
    refine wpAny_pyNext_enum_itemD (Draws.tuple (by show X.A.in1.handled = none; exact I.ok.hd hc) it a hai its.toArray) he ⟨hit, p⟩ hlt hne (by simp; exact ⟨hne, hea⟩) fun y h' tk hy ho st' hT hsz hk => ?_
    have ey : y = u := by
      have : its.toArray[i]? = some u := by simpa using hu
      rw [this] at hy
      exact (Option.some.inj hy).symm
    subst ey
    refine ⟨_, rfl, wpAny_letOwnedTupleGo_enum (s := { s with heap := h', toks := tk + 1 }) ho fun h'' he' sb => ?_⟩
    have hT2 : h''.get? s.heap.objs.size = some { cls := .type "tuple", data := .seq #[.int i tk, y] } := (sb.2 _ (Nat.ne_of_gt hel)).trans hT
    have new : ObjOk X.prog X.w (upd H s.heap.objs.size (.tup [.int (i : Nat), x])) h'' s.heap.objs.size (.tup [.int (i : Nat), x]) := ⟨(by show 2 ≤ sizeLine; decide), [.int i tk, y], .cons ⟨_, rfl⟩ (.cons ru .nil), ⟨_, hT2, rfl, _, rfl⟩⟩
    have I1 : Inv X pins σ (upd H s.heap.objs.size (.tup [.int (i : Nat), x])) { s with heap := h'', toks := tk + 1 } :=
      I.turnedNew (t' := tk + 1) (ch := [e, it]) (fun b ob hb q => (sb.2 b (fun z => hb (by simp [z]))).trans (hk b ob (fun z => hb (by simp [z])) (fun z => hb (by simp [z])) q)) hf (Nat.le_refl _) new
    refine ⟨.ref s.heap.objs.size, _, I1, rfl, ⟨_, x, rfl, I.hok.fresh (Nat.le_refl _), rfl, fun ys hy => by rw [I.tuple_inj hy hq]; exact hx⟩, ⟨⟨y, ?_⟩, st'.1.at fun o q => (sb.2 it (Ne.symm hne)).trans q, hne, hai, hea⟩, fun b hb => ?_⟩
    · have e1 : ((i + 1 : Nat) : Int) = (i : Int) + 1 := by omega
      rw [e1]; exact he'
    · have hb' : b < s.heap.objs.size := by
        have eb : b = e ∨ b = it := by simpa using hb
        rcases eb with rfl | rfl
        · exact hel
        · exact hil
      rw [upd_ne (Nat.ne_of_lt hb')]
      exact (hf b hb).1
  done := by
    intro X hP hw hK hc i pins s σ H E I hf st hg
    subst hP hw hK
    obtain ⟨⟨old, he⟩, hit, hne, hai, hea⟩ := st
    obtain ⟨xs, hq, hx⟩ := hg
    obtain ⟨its, rv, p, hz⟩ := I.tuple hq
    obtain ⟨f0, f1, f2, f3, f4, f5⟩ := hf it (by simp)
    have hl := rv.length
    have en : i = its.toArray.size := by simp only [List.size_toArray]; omega
    subst en
    exact wpAny_pyNext_enum_endD (Draws.tuple (by show X.A.in1.handled = none; exact I.ok.hd hc) it a hai its.toArray) he ⟨hit, p⟩ fun h' eb => ⟨rfl, I.turned (t' := s.toks) (fun b o hb q => eb b o hb q) f0 f1 f3 f4 f5⟩
  self := fun A i s Q E st h => let ⟨⟨_, he⟩, _⟩ := st; wpAny_pyIter_enum he h
def iEnumT (K : PySem.W.Frag) (ta : TA) : TI := fun σ H R => ta σ H fun vs H1 => ∃ a xs, vs = [.ref a] ∧ SqT K H1 a xs ∧ R (IteT K a) H1
theorem pi_enumT {X : Cx} {e : Expr} {ta : TA} {p pos tpos : Pos} {elts : List Expr} {kk : Nat} (hg : Gl X "enumerate") (hm : X.mg "enumerate" = none) (ha : PA X [e] ta) (hs : starEach [e] X.env = [(false, eval e X.env)] := by rfl) :
    PI X (.Tuple elts kk tpos) (.Call (.Name "enumerate" p) [e] [] pos) (iEnumT X.K ta) := by
  refine ⟨fun pins s σ H R I h => ?_⟩
  refine Call_ (ld_blt I hg hm boot_enumerate (PyProof.Rows.callWith_type1 (thn (ha.run pos pins s σ H _ I h) fun us s1 ⟨vs, H1, I1, r1, q1⟩ => ?_) hs rfl))
  obtain ⟨a, xs, rfl, hq, q⟩ := q1
  cases r1 with
  | cons r rr =>
    cases rr
    cases r
    obtain ⟨its, rv, p', hz⟩ := I1.tuple hq
    obtain ⟨oa, hoa, _⟩ := id p'
    have alt := Heap.lt_size hoa
    refine callE (show s1.heap.IsTuple a its.toArray from p') fun h' he hit hsz hk => wpAny_pyIter_enum he ?_
    have I2 : Inv X pins σ H1 { s1 with heap := h' } := I1.kept (t' := s1.toks) hk
    refine ⟨s1.heap.objs.size + 1, [s1.heap.objs.size + 1, s1.heap.objs.size], _, _, H1, rfl, I2, turnE a (s1.heap.objs.size + 1) s1.heap.objs.size, ⟨⟨.none, he⟩, hit, Nat.succ_ne_self _, Nat.ne_of_lt alt, Nat.ne_of_gt (Nat.lt_succ_of_lt alt)⟩, fun b hb => ?_, q⟩
    have eb : b = s1.heap.objs.size + 1 ∨ b = s1.heap.objs.size := by simpa using hb
    have hle : s1.heap.objs.size ≤ b := by
      rcases eb with rfl | rfl
      · exact Nat.le_add_right _ _
      · exact Nat.le_refl _
    exact I1.fpOk hle (I1.hok.fresh hle)
theorem walkE {K : PySem.W.Frag} {a : Addr} {xs : List V} : Walk (IteT K a) xs.length (fun H => SqT K H a xs) (YPair (fun i => some (.int (i : Nat))) (fun i => xs[i]?)) := by
  refine ⟨fun i _ hi q => ⟨xs, xs[i], q, List.getElem?_eq_getElem hi⟩, fun _ q => ⟨xs, q, rfl⟩, fun i H v H' _ q y => ?_⟩
  obtain ⟨T, x, h1, h2, h3, h4⟩ := y
  exact ⟨T, .int (i : Nat), x, h1, h2, h3, rfl, h4 xs q⟩
end SxZ
namespace Sx
open PySem PySem.Spec PyProof.Rows L2
section
variable {X : Cx} {C : Cs} {W : WX} {pos p : Pos} {e : Expr} {f : E}
theorem enum_walk {J : L2.It} {F H : Hp} {us : List V} {ds : List D} {n : Nat} {Gd : Hp → Prop} (hn : n = us.length) (rr : Reps C F us ds) (w : Walk J us.length Gd (YPair (fun i => some (.int (i : Nat))) (fun i => us[i]?))) (hG : ∀ H, Le F H → Gd H) : WalkD C J (enumD 0 ds) F (fun H => Le F H) := by
  unfold WalkD
  rw [enum_len, ← rr.length]
  refine w.mono (fun H l => hG H l) fun i H x H' hi _ y F' l1 l => ?_
  obtain ⟨T, x1, y1, rfl, hT, rfl, e1, e2⟩ := y
  cases e1
  obtain ⟨d, hd, rd⟩ := rr.getV e2
  obtain ⟨F2, q, r⟩ := pair_at l1 l hT (.int (i : Nat)) rd
  refine ⟨F2, _, q, ?_, r⟩
  have := enum_at ds 0 i d hd
  rw [this]
  simp
/-- enumerate of a list or a tuple -/
theorem si_enum {elts : List Expr} {kk : Nat} {tpos : Pos} (hg : Gl X "enumerate") (hm : X.mg "enumerate" = none) (he : SE X C W e f) (hs : starEach [e] X.env = (false, eval e X.env) :: starEach [] X.env := by rfl) :
    SI X C W (.Tuple elts kk tpos) (.Call (.Name "enumerate" p) [e] [] pos) (iEnum (iSeq f)) := by
  refine pi_imp (pi_two (pi_enum hg hm (pa_cons he pa_nil hs) (by rw [hs]; rfl)) (SxZ.pi_enumT hg hm (pa_cons he pa_nil hs) (by rw [hs]; rfl))) ?_
  rintro σ H R ⟨F0, H0, F, ρ, g, rel, h⟩
  unfold iEnum iSeq at h
  simp only [onOk_bind] at h
  cases q : f ρ g with
  | er x g1 => rw [q] at h; exact .inl ⟨F0, H0, F, ρ, g, rel, by rw [q]; exact h⟩
  | no => rw [q] at h; exact h.elim
  | ok b g1 =>
    rw [q] at h
    obtain ⟨t, d⟩ := b
    cases d with
    | lst ds =>
      refine .inl ⟨F0, H0, F, ρ, g, rel, ?_⟩
      rw [q]
      intro v F1 H1 a1 r1
      have nb : t ≠ .bw := fun z => by subst z; exact h.elim
      obtain ⟨F2, a2, r2, l2⟩ := r1.freeze a1 nb
      have h : ∀ J F' H', After C F H g1 F' H' → WalkD C J (enumD 0 ds) F' (fun H => Le F' H) → R J H' := by cases t <;> first | exact h | exact absurd rfl nb
      cases r2 with
      | lst hf hz rr => exact ⟨_, _, rfl, SqL.of (a2.stp.le _ _ hf), h _ F2 H1 a2 (enum_walk (H := H1) rfl rr walk_enum fun H l => SqL.of (l _ _ hf))⟩
    | tup ds =>
      refine .inr ⟨F0, H0, F, ρ, g, rel, ?_⟩
      rw [q]
      intro v F1 H1 a1 r1
      have nb : t ≠ .bw := fun z => by subst z; exact h.elim
      obtain ⟨F2, a2, r2, l2⟩ := r1.freeze a1 nb
      have h : ∀ J F' H', After C F H g1 F' H' → WalkD C J (enumD 0 ds) F' (fun H => Le F' H) → R J H' := by cases t <;> first | exact h | exact absurd rfl nb
      cases r2 with
      | tup hf hz rr => exact ⟨_, _, rfl, SqT.of (a2.stp.le _ _ hf), h _ F2 H1 a2 (enum_walk (H := H1) rfl rr SxZ.walkE fun H l => SqT.of (l _ _ hf))⟩
    | _ => cases t <;> exact h.elim
end
end Sx
namespace Sx
open PySem PySem.Spec PyProof.Rows L2
/-- a def that is told nothing of -/
theorem fng_no {P : Program} {w : World} {K : PySem.W.Frag} {mg : Str → Option Value} {base : Heap} {C : Cs} {k : Nat} {f : Addr} {fd : FuncData} {ps : List Str} : FnG P w K mg base k f fd ps (spF C fun _ _ => .no) :=
  ⟨fun vs H Q E h => by obtain ⟨F, g, ds, _, _, _, _, z⟩ := h; exact z.elim, fun A outer s H args us vs Q E hr hgd e0 b r h => by obtain ⟨F, g, ds, _, _, _, _, z⟩ := h; exact z.elim⟩
end Sx

set_option Elab.async false
set_option linter.all false
set_option maxRecDepth 100000
set_option maxHeartbeats 4000000
/-! Sx25: calls in an except suite. -/
namespace Sx
open PySem PySem.Spec PyProof.Rows L2
/-- called where an exception is held: no exception is handed on -/
def mX (m : Fn) : Fn := fun ds g => if ds.all pureD then m ds g else .no
theorem reps_pure {C C' : Cs} {F : Hp} (e : C'.st = C.st) : ∀ {vs : List V} {ds : List D}, ds.all pureD = true → Reps C' F vs ds → Reps C F vs ds
  | _, _, _, .nil => .nil
  | _, _, h, .cons r t => by
    rw [List.all_cons, Bool.and_eq_true] at h
    exact .cons (rep_pure e h.1 r) (reps_pure e h.2 t)
theorem FnG.toX {P : Program} {w : World} {K : PySem.W.Frag} {mg : Str → Option Value} {base : Heap} {C : Cs} {k : Nat} {f : Addr} {fd : FuncData} {ps : List Str} {m : Fn} {a : Addr} {d : Option Addr} {j : Nat} (F : FnG P w K mg base k f fd ps (spF C m)) (hX : C.exa = none) :
    FnG P w K mg base k f fd ps (spF (CsX C a d j) (mX m)) := by
  have imp : ∀ vs H Q E, spF (CsX C a d j) (mX m) vs H Q E → spF C m vs H Q E := by
    rintro vs H Q E ⟨F1, g, ds, l, st, tb, r, h⟩
    unfold mX at h
    split at h
    · rename_i hp
      have u := up_X hX a d j
      refine ⟨F1, g, ds, l, st.conv (C := CsX C a d j) (C' := C) rfl, ⟨tb.1, tb.2, tb.3⟩, reps_pure (C := C) (C' := CsX C a d j) rfl hp r, onOk_mono h (fun b g' k v F' H' af rb => ?_) fun x g' k cls dd F' H' af ex => ?_⟩
      · exact k v F' H' (af.conv (C := C) (C' := CsX C a d j) rfl ⟨af.tabs.1, af.tabs.2, af.tabs.3⟩) (rb.up u)
      · refine k cls dd F' H' (af.conv (C := C) (C' := CsX C a d j) rfl ⟨af.tabs.1, af.tabs.2, af.tabs.3⟩) ?_
        obtain ⟨Ca, q1, q2, q3⟩ := ex
        exact ⟨Ca, q1, q2, q3.imp id fun ⟨d1, xs, z1, z2, z3⟩ => ⟨d1, xs, z1, z2, z3.up u⟩⟩
    · exact h.elim
  exact ⟨fun vs H Q E q => F.len _ _ _ _ (imp _ _ _ _ q), fun A outer s H args us vs Q E hr hg e0 b r q => F.run A outer s H args us vs Q E hr hg e0 b r (imp _ _ _ _ q)⟩
end Sx

set_option Elab.async false
set_option linter.all false
set_option maxRecDepth 100000
set_option maxHeartbeats 4000000
/-! Sx26: own defs as values, called through a variable; sorted of ints. -/
namespace Sx
open PySem PySem.Spec PyProof.Rows L2
/-- x(e, ..), x a variable that holds one of the defs in the table -/
def eCallV (tab : Nat → Option Fn) (i : Nat) (fs : List E) : E := fun ρ g => match ρ[i]? with
  | some (some ⟨.sh, .fn n⟩) => (match tab n with | some m => eCall m fs ρ g | none => .no)
  | _ => .no
section
variable {X : Cx} {C : Cs} {W : WX} {pos p : Pos}
theorem se_fnv {x : Str} {a : Addr} {n : Nat} (h : C.fns n = some a) (hg : Gl X x) (hm : X.mg x = some (.ref a)) (hdb : (x == ("__debug__" : Str)) = false := by decide) : SE X C W (.Name x pos) (eVal (.fn n)) := by
  refine pe_imp (pe_glob (v := .ref a) hg hm rfl hdb) ?_
  rintro σ H Q ⟨F0, H0, F, ρ, g, rel, k⟩
  exact k (.ref a) F H rel.after (.fn h)
/-- the defs of the table, their promises -/
def TabG (X : Cx) (C : Cs) (k : Nat) (tab : Nat → Option Fn) : Prop := ∀ n m, tab n = some m → ∃ (a : Addr) (fd : FuncData) (ps : List Str), C.fns n = some a ∧ FnG X.prog X.w X.K X.mg X.base k a fd ps (spF C m) ∧ PySem.W.keepIn X.K (.ref a) = true ∧ Binds X.K fd ps []
theorem se_callV {tab : Nat → Option Fn} {i k : Nat} {x : Str} {e : Expr} {es : List Expr} {fs : List E} (hT : TabG X C k tab) (hr : Room k X.A) (hgd : X.A.guards = some []) (hN : X.N[i]? = some x) (hv : Vis X.env.scope x) (tk : Takes X W) (ha : SA X C W (e :: es) fs)
    (hd : (x == ("__debug__" : Str)) = false := by decide) (hcd : (x == ("__classdict__" : Str)) = false := by decide) (he : starEach (e :: es) X.env = (false, eval e X.env) :: starEach es X.env := by rfl) (hpl : (backTo pos (starEach es X.env)).any (·.1) = false := by rfl) :
    SE X C W (.Call (.Name x p) (e :: es) [] pos) (eCallV tab i fs) := by
  constructor
  rintro pins s σ H Q I ⟨F0, H0, F, ρ, g, rel, h⟩
  unfold eCallV at h
  split at h
  · rename_i n hq
    split at h
    · rename_i m hm
      obtain ⟨v, hs, rv⟩ := rel.slot i _ hq
      have rv : Rep C F v (.fn n) := rv
      cases rv with
      | fn hf =>
        rename_i a0
        obtain ⟨a, fd, ps, h1, FG, hk, hb⟩ := hT n m hm
        have ea : a0 = a := Option.some.inj (hf.symm.trans h1)
        subst ea
        refine wpAny_Call_Name_kw (thn ((pe_var (X := X) (pos := p) (i := i) hN hv hd hcd).run pins s σ H (fun v H' => v = .ref a0 ∧ H' = H) I ⟨.ref a0, hs, rfl, rfl⟩) fun u t1 hu => ?_)
        obtain ⟨w0, H1, I0, r0, e1, e2⟩ := hu
        subst e1 e2
        obtain rfl : u = Value.ref a0 := r0
        have t : tA C W fs σ H1 fun vs H2 => spF C m vs H2 Q (WE W σ) := by
          rw [eCall_0] at h
          unfold eCall0 at h
          rw [onOk_bind] at h
          refine ⟨F0, H0, F, ρ, g, rel, onOk_mono h (fun ds g1 h1 vs F1 H2 a1 r1 => ?_) fun x g1 h1 => h1⟩
          exact ⟨F1, g1, ds, a1.stp.le, a1.st, a1.tabs, r1, onOk_mono h1 (fun b g2 h2 v F2 H3 a2 rb => h2 v F2 H3 (a1.trans a2) (rb.early a1)) fun x g2 h2 cls d F2 H3 a2 ex => h2 cls d F2 H3 (a1.trans a2) ex⟩
        refine PySem.W.callWith_K (h₀ := X.base) I0.ok.mod.kin hk (thn (ha.run pos pins _ σ H1 _ I0 t) fun us s1 got => ?_) he hpl
        obtain ⟨vs, H2, I1, r, q⟩ := got
        exact ⟨I1.kIn, run_own (E := WE W) FG hr hgd hb (passAt tk σ) I1 r q⟩
    · exact h.elim
  · exact h.elim
end
end Sx
namespace Sx
open PySem PySem.Spec PyProof.Rows L2
/-! ### sorted -/
def insI (x : Int) : List Int → List Int
  | [] => [x]
  | y :: r => if x ≤ y then x :: y :: r else y :: insI x r
def sortI : List Int → List Int
  | [] => []
  | x :: r => insI x (sortI r)
theorem insI_perm (x : Int) : ∀ l, (insI x l).Perm (x :: l)
  | [] => .refl _
  | y :: r => by
    unfold insI
    split
    · exact .refl _
    · exact ((insI_perm x r).cons y).trans (.swap x y r)
theorem sortI_perm : ∀ l, (sortI l).Perm l
  | [] => .refl _
  | x :: r => (insI_perm x (sortI r)).trans ((sortI_perm r).cons x)
theorem insI_sorted (x : Int) : ∀ l : List Int, l.Pairwise (· ≤ ·) → (insI x l).Pairwise (· ≤ ·)
  | [], _ => by simp [insI]
  | y :: r, h => by
    unfold insI
    rw [List.pairwise_cons] at h
    split
    · rename_i hxy
      refine List.pairwise_cons.mpr ⟨fun z hz => ?_, List.pairwise_cons.mpr h⟩
      rcases List.mem_cons.mp hz with rfl | hz
      · exact hxy
      · exact Int.le_trans hxy (h.1 z hz)
    · rename_i hxy
      refine List.pairwise_cons.mpr ⟨fun z hz => ?_, insI_sorted x r h.2⟩
      rcases List.mem_cons.mp ((insI_perm x r).mem_iff.mp hz) with rfl | hz
      · omega
      · exact h.1 z hz
theorem sortI_sorted : ∀ l : List Int, (sortI l).Pairwise (· ≤ ·)
  | [] => List.Pairwise.nil
  | x :: r => insI_sorted x _ (sortI_sorted r)
theorem sorted_eq : ∀ (l m : List Int), l.Perm m → l.Pairwise (· ≤ ·) → m.Pairwise (· ≤ ·) → l = m
  | [], m, p, _, _ => (List.Perm.nil_eq p)
  | x :: r, [], p, _, _ => by have := p.length_eq; simp at this
  | x :: r, y :: t, p, h, h' => by
    rw [List.pairwise_cons] at h h'
    have e : x = y := by
      have a : x ∈ y :: t := p.mem_iff.mp List.mem_cons_self
      have b : y ∈ x :: r := p.mem_iff.mpr List.mem_cons_self
      rcases List.mem_cons.mp a with e | a
      · exact e
      · rcases List.mem_cons.mp b with e | b
        · exact e.symm
        · exact Int.le_antisymm (h.1 y b) (h'.1 x a)
    subst e
    rw [sorted_eq r t ((List.perm_cons x).mp p) h.2 h'.2]
def oSorted : Op1
  | .lst ds => match ints? ds with | some is => some (ow (.lst ((sortI is).map .int))) | none => none
  | _ => none
section
variable {X : Cx} {C : Cs}
theorem c_sorted : CallOk1 X C (.builtin "sorted") oSorted := by
  refine ⟨_, cr_sortedI, fun x dx F H b Q l i rx e k => ?_⟩
  unfold oSorted at e
  split at e
  · split at e
    · rename_i ds is hi
      cases e
      obtain ⟨a, vs, rfl, ha, z, r⟩ := ro_lst l rx
      rw [ints_of r hi] at ha z
      refine ⟨a, is, rfl, SqL.of ha, fun ns' p hp hs hq => ?_⟩
      have en : ns' = sortI is := sorted_eq _ _ (hp.trans (sortI_perm is).symm) hs (sortI_sorted is)
      subst en
      refine q_lst l i k hq ?_ (reps_ints _)
      rw [List.length_map] at z ⊢
      rw [(sortI_perm is).length_eq]
      exact z
    · cases e
  · cases e
end
end Sx

set_option Elab.async false
set_option linter.all false
set_option maxRecDepth 100000
set_option maxHeartbeats 4000000
/-! Sx27: sorted(d), d a dict whose keys are pairs of ints (own work). -/
namespace Sx
open PySem PySem.Spec PyProof.Rows L2

/-! ### the law's side: pairs in order -/
def lexP (p q : Int × Int) : Bool := if p.1 = q.1 then decide (p.2 < q.2) else decide (p.1 < q.1)
def insP (x : Int × Int) : List (Int × Int) → List (Int × Int)
  | [] => [x]
  | y :: ys => if lexP y x then y :: insP x ys else x :: y :: ys
def sortP : List (Int × Int) → List (Int × Int)
  | [] => []
  | x :: r => insP x (sortP r)
theorem insP_perm (x : Int × Int) : ∀ l, (insP x l).Perm (x :: l)
  | [] => .refl _
  | y :: ys => by
    unfold insP
    split
    · exact ((insP_perm x ys).cons y).trans (List.Perm.swap x y ys)
    · exact .refl _
theorem sortP_perm : ∀ l, (sortP l).Perm l
  | [] => .nil
  | x :: r => (insP_perm x (sortP r)).trans ((sortP_perm r).cons x)
theorem lexP_eq (p q : Int × Int) : lexP p q = SrtO.lexB p q := rfl
theorem lexP_tr {x y z : Int × Int} (h1 : lexP y x = false) (h2 : lexP z y = false) : lexP z x = false := by
  have a := SrtO.lexB_no.mp h1
  have b := SrtO.lexB_no.mp h2
  refine SrtO.lexB_no.mpr ?_
  omega
theorem lexP_as {x y : Int × Int} (h : lexP x y = true) : lexP y x = false := by
  have a := SrtO.lexB_iff.mp h
  refine SrtO.lexB_no.mpr ?_
  omega
theorem lexP_anti {x y : Int × Int} (h1 : lexP x y = false) (h2 : lexP y x = false) : x = y := by
  have a := SrtO.lexB_no.mp h1
  have b := SrtO.lexB_no.mp h2
  obtain ⟨x1, x2⟩ := x
  obtain ⟨y1, y2⟩ := y
  simp only at a b
  have e1 : x1 = y1 := by omega
  have e2 : x2 = y2 := by omega
  rw [e1, e2]
abbrev UpP (l : List (Int × Int)) : Prop := l.Pairwise fun x y => lexP y x = false
theorem insP_up (x : Int × Int) : ∀ l, UpP l → UpP (insP x l)
  | [], _ => List.pairwise_singleton _ _
  | y :: ys, h => by
    obtain ⟨h1, h2⟩ := List.pairwise_cons.mp h
    unfold insP
    split
    · rename_i q
      refine List.pairwise_cons.mpr ⟨fun z hz => ?_, insP_up x ys h2⟩
      rcases List.mem_cons.mp ((insP_perm x ys).mem_iff.mp hz) with e | hz
      · subst e; exact lexP_as q
      · exact h1 z hz
    · rename_i q
      have q : lexP y x = false := by simpa using q
      refine List.pairwise_cons.mpr ⟨fun z hz => ?_, h⟩
      rcases List.mem_cons.mp hz with e | hz
      · subst e; exact q
      · exact lexP_tr q (h1 z hz)
theorem sortP_up : ∀ l, UpP (sortP l)
  | [] => .nil
  | x :: r => insP_up x _ (sortP_up r)
theorem upP_uniq {l m : List (Int × Int)} (hl : UpP l) (hm : UpP m) (h : l.Perm m) : l = m :=
  h.eq_of_pairwise (fun x y _ _ h1 h2 => (lexP_anti h1 h2).symm) hl hm
def pairsT? : List (List Int × D) → Option (List (Int × Int))
  | [] => some []
  | (k, _) :: r => match k, pairsT? r with | [i, j], some ps => some ((i, j) :: ps) | _, _ => none
def dP (p : Int × Int) : D := .tup [.int p.1, .int p.2]
def oSortedD : Op1
  | .dt kvs => match pairsT? kvs with | some ps => some (ow (.lst ((sortP ps).map dP))) | none => none
  | _ => none

/-! ### the model's side -/
section
variable {X : Cx}
def unref : Value → Addr
  | .ref a => a
  | _ => 0
theorem call_sorted_dT (hc : X.calm = true) : CallR X (.builtin "sorted") (fun xs H Q => ∃ (d : Addr) (kvs : List (List Key × V)) (k : Addr → Int × Int), xs = [V.ref d] ∧ Rd H d (.dT kvs) ∧
    (∀ bs, IsKeys H kvs bs → ∀ b ∈ bs, H b = some (.tup [.int (k b).1, .int (k b).2])) ∧
    ∀ (bs ys : List Addr) (p : Addr), IsKeys H kvs bs → ys.Pairwise (fun x y => SrtO.lexB (k y) (k x) = false) → ys.Perm bs → bs.length ≤ sizeLine → H p = none → Q (.ref p) (upd H p (.lst (ys.map V.ref)))) := by
  intro pins s σ H xs us Q I r h
  obtain ⟨d, kvs, k, rfl, hd, hk, q⟩ := h
  obtain ⟨u, rfl, rx⟩ := r.one
  cases rx
  obtain ⟨z, hs, ks, pr, o, es, ep, ho, hx, hdt, he, hn⟩ := (show ObjOk X.prog X.w H s.heap d (.dT kvs) from hd.ok I.hok)
  have l1 : es.size = ks.length := size_of_entries he
  have l2 : kvs.length = ks.length := Paired.length pr
  refine Calls.call_function_entry PyProof.Rows.kind_sorted PyProof.Rows.plain_sorted PyProof.Rows.entry_sorted (PyProof.Rows.args_sorted1 _) ?_
  unfold Builtin.«sorted»
  refine wpAny_bind (m := checkCount "sorted" 1 1 _) (wpAny_pure ?_)
  refine wpAny_bind (PySem.W.kdu_collect (A := X.A.in1) (kdl_raw hs hx hdt) (I.ok.hd hc) ho (by omega) fun h' tk acc kp it => ?_)
  have ea : acc.toList = ks.map fun x => Value.ref x.2.1 := by
    have hl : acc.toList.length = ks.length := by rw [Array.length_toList, it.1]; exact l1
    apply List.ext_getElem?
    intro j
    rw [List.getElem?_map]
    cases hj : acc.toList[j]? with
    | none =>
      have h1 := List.getElem?_eq_none_iff.mp hj
      rw [List.getElem?_eq_none (by omega)]
      all_goals rfl
    | some v =>
      obtain ⟨en, hen, hv⟩ := it.2 j v (by rw [← Array.getElem?_toList]; exact hj)
      have qe := entry_at he j
      rw [hen] at qe
      cases hb : ks[j]? with
      | none =>
        rw [hb] at qe
        exact nomatch (show some en = none from qe)
      | some b =>
        rw [hb] at qe
        have e2 : en = entryOfKey (tupleKind (mixKind X.prog X.w)) b := Option.some.inj qe
        rw [hv, e2]
        all_goals rfl
  have ik := isKeys_of pr
  generalize hbs : (ks.map fun x => x.2.1) = bs at ik
  have eb : acc.toList = bs.map Value.ref := by rw [ea, ← hbs, List.map_map]; all_goals rfl
  have hbl : bs.length ≤ sizeLine := by rw [← hbs, List.length_map]; omega
  rw [eb]
  have hb := hk bs ik
  have I1 : Inv X pins σ H { s with heap := h', toks := tk } := I.kept kp
  have hz : (bs.map Value.ref).length ≤ sizeLine := by rw [List.length_map]; exact hbl
  refine wpAny_bind (wpAny_newList ?_ hz)
  have hoL : (h'.push (seqObj "list" (bs.map Value.ref).toArray 0)).get? h'.objs.size = some (seqObj "list" (bs.map Value.ref).toArray 0) := Heap.get?_push_size _ rfl
  have hp : ∀ v ∈ bs.map Value.ref, Srt.IsPair (h'.push (seqObj "list" (bs.map Value.ref).toArray 0)) v (k (unref v)).1 (k (unref v)).2 := fun v hv => by
    obtain ⟨b, hm, rfl⟩ := List.mem_map.mp hv
    obtain ⟨_, its2, r2, o2, ho2, hc2, n2, hd2⟩ := I1.hok _ _ (hb b hm)
    obtain ⟨u1, u2, rfl, ri, rj⟩ := vals2 r2
    obtain ⟨t1, rfl⟩ := ri
    obtain ⟨t2, rfl⟩ := rj
    exact ⟨b, o2, t1, t2, n2, rfl, Heap.get?_push_of_some _ ho2, hc2, hd2⟩
  show wpAny _ _ _ _ _ { s with heap := h'.push (seqObj "list" (bs.map Value.ref).toArray 0), toks := tk }
  refine wpAny_bind (wpAny_holding (wpAny_call_entry PyProof.Rows.slot_list_sort ⟨_, hoL, rfl⟩ PyProof.Rows.entry_list_sort
    (SrtO.list_sort_ord (s := { s with heap := h'.push (seqObj "list" (bs.map Value.ref).toArray 0), toks := tk }) (SrtO.swo_lex fun v => k (unref v)) hoL hz
      (fun h2 => SrtO.pairs_sortableO (by omega) hp fun o e => by
        have e' : some o = some (seqObj "list" (bs.map Value.ref).toArray 0) := e.symm.trans hoL
        cases e'
        intro c
        exact absurd (Value.type.inj c) (by decide)) fun out hs2 hb2 => ⟨_, rfl, ?_⟩) (PyProof.Rows.args_list_sort _)))
  obtain ⟨e', he'⟩ := PyProof.Rows.sortedHeap_at (vs := bs.map Value.ref) (out := out.toArray) hoL
  have eo : out = (out.map unref).map Value.ref := by
    have : ∀ v ∈ out, v = Value.ref (unref v) := fun v hv => by
      obtain ⟨b, _, rfl⟩ := List.mem_map.mp (hb2.perm.mem_iff.mp hv)
      rfl
    rw [List.map_map]
    conv => lhs; rw [← List.map_id out]
    exact List.map_congr_left this
  have hperm : (out.map unref).Perm bs := by
    have := hb2.perm.map unref
    rwa [List.map_map, show (unref ∘ Value.ref) = id from rfl, List.map_id] at this
  have hlen : ((out.map unref).map V.ref).length ≤ sizeLine := by
    rw [List.length_map, hperm.length_eq]
    exact hbl
  have rv : Vals ((out.map unref).map V.ref) out := by
    conv => rhs; rw [eo]
    exact vals_refs _
  refine wpAny_pure ⟨_, rfl, .ref h'.objs.size, upd H h'.objs.size (.lst ((out.map unref).map V.ref)), I1.laid (t' := tk) (fun b u e => ?_) (Nat.le_refl _)
    (show ObjOk X.prog X.w _ _ _ (.lst ((out.map unref).map V.ref)) from ⟨hlen, out, e', rv, he'⟩), rfl, q bs _ _ ik (List.pairwise_map.mpr hs2) hperm hbl (I1.hok.fresh (Nat.le_refl _))⟩
  have hb : b < h'.objs.size := Heap.lt_size e
  rw [PyProof.Rows.sortedHeap_old (Nat.ne_of_lt hb) (by rw [size_push']; exact Nat.lt_succ_of_lt hb)]
  exact Heap.get?_push_of_some _ e
end

/-! ### over the data -/
section
variable {X : Cx} {C : Cs}
open Classical in
/-- the tuples at bs are shared from then on -/
noncomputable def addF (F H : Hp) (bs : List Addr) : Hp := fun a => if a ∈ bs then H a else F a
theorem addF_in {F H : Hp} {bs : List Addr} {a : Addr} (h : a ∈ bs) : addF F H bs a = H a := by unfold addF; rw [if_pos h]
theorem addF_out {F H : Hp} {bs : List Addr} {a : Addr} (h : a ∉ bs) : addF F H bs a = F a := by unfold addF; rw [if_neg h]
theorem le_addF {F H : Hp} {bs : List Addr} (l : Le F H) : Le F (addF F H bs) := fun a o h => by
  by_cases m : a ∈ bs
  · rw [addF_in m]; exact l a o h
  · rw [addF_out m]; exact h
theorem addF_le {F H : Hp} {bs : List Addr} (l : Le F H) : Le (addF F H bs) H := fun a o h => by
  by_cases m : a ∈ bs
  · rw [addF_in m] at h; exact h
  · rw [addF_out m] at h; exact l a o h
theorem quiet_addF {F H : Hp} {bs : List Addr} (l : Le F H) (hb : ∀ b ∈ bs, ∃ xs, H b = some (.tup xs)) : Quiet C F H (addF F H bs) H := by
  have out : ∀ {a : Addr} {o : HO}, H a = some o → (∀ xs, o ≠ .tup xs) → a ∉ bs := fun {a o} h n m => by
    obtain ⟨xs, e⟩ := hb a m
    rw [h] at e
    exact n xs (Option.some.inj e)
  refine ⟨⟨le_addF l, addF_le l, fun a o h _ _ => h, fun a h => h, fun a h n => ?_⟩, fun g st => ?_, fun t => ⟨t.1, t.2, fun a ps e => ?_⟩⟩
  · by_cases m : a ∈ bs
    · obtain ⟨xs, e⟩ := hb a m
      exact .inr ⟨xs, by rw [addF_in m]; exact e⟩
    · exact .inl (by rw [addF_out m]; exact n)
  · unfold StOk at *
    cases eC : C.st with
    | none => trivial
    | some t =>
      obtain ⟨x, y, z⟩ := t
      rw [eC] at st
      cases g with
      | none => exact st
      | some gs =>
        obtain ⟨h1, h2, h3, n1, n2, n3, f1, f2, f3⟩ := st
        exact ⟨h1, h2, h3, n1, n2, n3, by rw [addF_out (out h1 fun _ q => by cases q)]; exact f1, by rw [addF_out (out h2 fun _ q => by cases q)]; exact f2, by rw [addF_out (out h3 fun _ q => by cases q)]; exact f3⟩
  · by_cases m : a ∈ bs
    · obtain ⟨xs, e2⟩ := hb a m
      rw [addF_in m, e2] at e
      cases e
    · rw [addF_out m] at e
      exact t.3 a ps e
/-- what the tuple at an address holds -/
def keyP (H : Hp) (a : Addr) : Int × Int := match H a with
  | some (.tup [.int i, .int j]) => (i, j)
  | _ => (0, 0)
theorem keys_pairs {F H : Hp} : ∀ {xs : List (List Key × V)} {ds : List (List Int × D)} {ps : List (Int × Int)} {bs : List Addr}, RepT C F xs ds → pairsT? ds = some ps → IsKeys H xs bs →
    bs.map (keyP H) = ps ∧ ∀ b ∈ bs, H b = some (.tup [.int (keyP H b).1, .int (keyP H b).2])
  | _, _, _, _, .nil, e, .nil => by cases e; exact ⟨rfl, fun b m => nomatch m⟩
  | _, _, _, b :: _, .cons (k := k) r t, e, .cons hb tb => by
    unfold pairsT? at e
    split at e
    · rename_i i j qs e2
      cases e
      obtain ⟨h1, h2⟩ := keys_pairs t e2 tb
      have hb' : H b = some (.tup [.int i, .int j]) := hb
      have ek : keyP H b = (i, j) := by unfold keyP; rw [hb']
      refine ⟨by rw [List.map_cons, ek, h1], fun c m => ?_⟩
      rcases List.mem_cons.mp m with rfl | m
      · rw [ek]; exact hb'
      · exact h2 c m
    · cases e
theorem reps_pairs {F H : Hp} {bs : List Addr} : ∀ {ys : List Addr}, (∀ b ∈ ys, b ∈ bs) → (∀ b ∈ bs, H b = some (.tup [.int (keyP H b).1, .int (keyP H b).2])) → Reps C (addF F H bs) (ys.map V.ref) ((ys.map (keyP H)).map dP)
  | [], _, _ => .nil
  | y :: ys, h, hb => .cons (.tup (by rw [addF_in (h y List.mem_cons_self)]; exact hb y (h y List.mem_cons_self)) (by rw [sizeLine_eq]; simp) (.cons (.int _) (.cons (.int _) .nil))) (reps_pairs (fun b m => h b (List.mem_cons_of_mem _ m)) hb)
theorem c_sortedD (hc : X.calm = true) : CallOk1 X C (.builtin "sorted") oSortedD := by
  refine ⟨_, call_sorted_dT hc, fun x dx F H b Q l i rx e k => ?_⟩
  unfold oSortedD at e
  split at e
  · rename_i kvs
    split at e
    · rename_i ps hps
      cases e
      obtain ⟨a, xs, rfl, ha, r⟩ := ro_dt l rx
      refine ⟨a, xs, keyP H, rfl, .of ha, fun bs ik => (keys_pairs r hps ik).2, fun bs ys p ik hs hp hz hn => ?_⟩
      obtain ⟨h1, h2⟩ := keys_pairs r hps ik
      have ey : ys.map (keyP H) = sortP ps := by
        refine upP_uniq (List.pairwise_map.mpr hs) (sortP_up ps) ?_
        refine (hp.map (keyP H)).trans ?_
        rw [h1]
        exact (sortP_perm ps).symm
      have q0 : Quiet C F H (addF F H bs) H := quiet_addF l fun b m => ⟨_, h2 b m⟩
      refine q_lst (ds := (sortP ps).map dP) (addF_le l) i (fun v F' H' q rb => k v F' H' ⟨q0.stp.trans q.stp, fun g st => q.st g (q0.st g st), fun t => q.tabs (q0.tabs t)⟩ rb) hn (by rw [List.length_map, hp.length_eq]; exact hz) ?_
      rw [← ey]
      exact reps_pairs (fun b m => hp.mem_iff.mp m) h2
    · cases e
  · cases e
end
end Sx

set_option Elab.async false
set_option linter.all false
set_option maxRecDepth 100000
/-! Sx28: f(e, .., p = e, ..), all parameters in their order (own work). -/
namespace Sx
open PySem PySem.Spec PyProof.Rows L2
theorem eArgs_cons (f : E) (fs : List E) (ρ : Ro) (g : G) : eArgs (f :: fs) ρ g = (f ρ g).bind fun b g1 => match b.t with | .bw => .no | _ => (eArgs fs ρ g1).bind fun ds g2 => .ok (b.d :: ds) g2 := by
  rw [eArgs]
  all_goals congr 1
theorem bind_bind {α β γ : Type} (r : R α) (f : α → G → R β) (k : β → G → R γ) : (r.bind f).bind k = r.bind fun a g => (f a g).bind k := by
  cases r <;> rfl
theorem bind_congr {α β : Type} {r : R α} {f k : α → G → R β} (h : ∀ a g, f a g = k a g) : r.bind f = r.bind k := by
  cases r with
  | ok a g => exact h a g
  | er x g => rfl
  | no => rfl
theorem eArgs_app : ∀ (fs gs : List E) (ρ : Ro) (g : G), eArgs (fs ++ gs) ρ g = (eArgs fs ρ g).bind fun ds g1 => (eArgs gs ρ g1).bind fun es g2 => .ok (ds ++ es) g2
  | [], gs, ρ, g => by
    show eArgs gs ρ g = (eArgs gs ρ g).bind fun es g2 => .ok es g2
    cases eArgs gs ρ g <;> rfl
  | f :: fs, gs, ρ, g => by
    show eArgs (f :: (fs ++ gs)) ρ g = _
    rw [eArgs_cons, eArgs_cons, bind_bind]
    refine bind_congr fun b g1 => ?_
    rw [eArgs_app fs gs ρ g1]
    obtain ⟨t, d⟩ := b
    cases t with
    | bw => rfl
    | sh =>
      show (R.bind _ _).bind _ = (R.bind _ _).bind _
      rw [bind_bind, bind_bind]
      refine bind_congr fun ds g2 => ?_
      rw [bind_bind]
      rfl
    | ow =>
      show (R.bind _ _).bind _ = (R.bind _ _).bind _
      rw [bind_bind, bind_bind]
      refine bind_congr fun ds g2 => ?_
      rw [bind_bind]
      rfl
theorem bindsPK {K : PySem.W.Frag} {x qual : Str} {params : Arguments} {body : List Stmt} {scope : Scope} {f : Addr} {fd : FuncData} {ps : List Str} (F : FunD K x qual params body scope [] [] f fd) (n : Nat)
    (h : ∀ (kV doc pm : Value) (an : Option Addr) (cdv ct : Value) (us ws : List Value), us.length = n → (us ++ ws).length = ps.length → bindArgs (PySem.W.fnOf x qual params body scope .none kV doc pm an cdv ct) ⟨us, (ps.drop n).zip ws⟩ = pure (ps.zip (us ++ ws))) (s : Shared) (us ws : List Value) (hu : us.length = n) (hl : (us ++ ws).length = ps.length) : BindsTo s fd ⟨us, (ps.drop n).zip ws⟩ (ps.zip (us ++ ws)) := by
  obtain ⟨oc, od, dV, kV, doc, pm, an, cdv, ct, osl, rfl, lk, hcd, hD, hK⟩ := F.ex
  rcases hD with ⟨_, rfl⟩ | ⟨e, _⟩
  · exact .of_eq (h kV doc pm an cdv ct us ws hu hl)
  · exact absurd rfl e
section
variable {X : Cx} {C : Cs} {W : WX} {pos : Pos}
theorem se_callPK {e : Expr} {es : List Expr} {kws : List Keyword} {fs gs : List E} {k : Nat} {f : Addr} {fd : FuncData} {ps : List Str} {m : Fn} {x : Str} {p : Pos} (n : Nat) (F : FnG X.prog X.w X.K X.mg X.base k f fd ps (spF C m)) (hr : Room k X.A) (hgd : X.A.guards = some []) (hg : Gl X x) (hm : X.mg x = some (.ref f)) (hk : PySem.W.keepIn X.K (.ref f) = true)
    (hb : ∀ (s : Shared) (us ws : List Value), X.K.In s.heap → us.length = n → (us ++ ws).length = ps.length → BindsTo s fd ⟨us, (ps.drop n).zip ws⟩ (ps.zip (us ++ ws))) (tk : Takes X W) (ha : SA X C W (e :: es) fs) (hk2 : SK X C W kws gs) (hn : (e :: es).length = n := by rfl) (hfs : fs.length = n := by rfl)
    (hall : (backToKw pos (keywordEach kws X.env)).all (·.1.isSome) = true := by rfl) (hks : (backToKw pos (keywordEach kws X.env)).filterMap (·.1) = ps.drop n := by rfl)
    (hdb : (x == ("__debug__" : Str)) = false := by decide) (he : starEach (e :: es) X.env = (false, eval e X.env) :: starEach es X.env := by rfl) (hpl : ((backTo pos (starEach (e :: es) X.env)).any (·.1) || (backToKw pos (keywordEach kws X.env)).any (·.1.isNone)) = false := by rfl) :
    SE X C W (.Call (.Name x p) (e :: es) kws pos) (eCall m (fs ++ gs)) := by
  have hc : PE X (.Call (.Name x p) (e :: es) kws pos) (fun σ H Q => tA C W fs σ H fun us H1 => us.length = n ∧ tA C W gs σ H1 fun vs H2 => spF C m (us ++ vs) H2 Q (WE W σ)) := by
    constructor
    intro pins s σ H Q I h
    refine wpAny_Call_Name_kw (ld_glob I hg hm ?_ hdb)
    refine PySem.W.callWith_KW (h₀ := X.base) I.ok.mod.kin hk hall (thn (ha.run pos pins s σ H _ I h) fun us s1 got => ?_) hpl he
    obtain ⟨vs, H1, I1, r, hln, q⟩ := got
    refine thn (hk2.run pos pins s1 σ H1 _ I1 q) fun ws s2 got2 => ?_
    obtain ⟨vs2, H2, I2, r2, q2⟩ := got2
    refine ⟨I2.kIn, ?_⟩
    rw [hks]
    have rr : Vals (vs ++ vs2) (us ++ ws) := r.append r2
    have hl : (us ++ ws).length = ps.length := by
      rw [← rr.length]
      exact F.len _ _ _ _ q2
    have hu : us.length = n := by rw [← r.length]; exact hln
    refine wpAny_call (codeAny_mono (F.run X.A X.stack s2 H2 ⟨us, (ps.drop n).zip ws⟩ (us ++ ws) (vs ++ vs2) Q (WE W σ) hr hgd I2.env0 (hb s2 us ws I2.kIn hu hl) rr q2) fun res s' got => ?_)
    match res, got with
    | .error e, got => exact passAt tk σ pins H2 s2 e s' I2 got
    | .ok (.ret u), got => exact I2.after got
  refine pe_imp hc ?_
  rintro σ H Q ⟨F0, H0, F, ρ, g, rel, h⟩
  rw [eCall_0] at h
  unfold eCall0 at h
  rw [eArgs_app, onOk_bind, onOk_bind] at h
  have hlen : ∀ (gs : List E) (ρ : Ro) (g g1 : G) (ds : List D), eArgs gs ρ g = .ok ds g1 → ds.length = gs.length := by
    intro gs
    induction gs with
    | nil => intro ρ g g1 ds e; cases e; rfl
    | cons f gs ih =>
      intro ρ g g1 ds e
      rw [eArgs_cons] at e
      cases q : f ρ g with
      | er x g2 => rw [q] at e; cases e
      | no => rw [q] at e; cases e
      | ok b g2 =>
        rw [q] at e
        replace e : (match b.t with | .bw => R.no | _ => (eArgs gs ρ g2).bind fun ds g2 => .ok (b.d :: ds) g2) = R.ok ds g1 := e
        obtain ⟨t, d⟩ := b
        cases q2 : eArgs gs ρ g2 with
        | er x g3 => rw [q2] at e; cases t <;> cases e
        | no => rw [q2] at e; cases t <;> cases e
        | ok es g3 =>
          rw [q2] at e
          cases t with
          | bw => cases e
          | sh => cases e; rw [List.length_cons, List.length_cons, ih _ _ _ _ q2]
          | ow => cases e; rw [List.length_cons, List.length_cons, ih _ _ _ _ q2]
  refine ⟨F0, H0, F, ρ, g, rel, ?_⟩
  cases q : eArgs fs ρ g with
  | er x g1 => rw [q] at h; exact h
  | no => rw [q] at h; exact h
  | ok ds g1 =>
    rw [q] at h
    intro us F1 H1 a1 r1
    refine ⟨by rw [r1.length, hlen _ _ _ _ _ q, hfs], F0, H0, F1, ρ, g1, rel.step a1, ?_⟩
    replace h : onOk (((eArgs gs ρ g1).bind fun es g2 => R.ok (ds ++ es) g2)) (fun ds g' => onOk (m ds g') _ _) _ := h
    rw [onOk_bind] at h
    refine onOk_mono h (fun es g2 h2 vs F2 H2 a2 r2 => ?_) fun x g2 h2 cls d F2 H2 a2 e2 => h2 cls d F2 H2 (a1.trans a2) e2
    have a := a1.trans a2
    refine ⟨F2, g2, ds ++ es, a2.stp.le, a2.st, a2.tabs, (r1.le a2.stp.ff).append r2, ?_⟩
    exact onOk_mono h2 (fun b g3 h3 v F3 H3 a3 rb => h3 v F3 H3 (a.trans a3) (rb.early a)) fun x g3 h3 cls d F3 H3 a3 ex => h3 cls d F3 H3 (a.trans a3) ex
end
end Sx

set_option Elab.async false
set_option linter.all false
set_option maxRecDepth 100000
set_option maxHeartbeats 4000000
/-! Sx29: sorted(list of pairs of ints) (own work). -/
namespace Sx
open PySem PySem.Spec PyProof.Rows L2
def pairsD? : List D → Option (List (Int × Int))
  | [] => some []
  | d :: r => match d, pairsD? r with | .tup [.int i, .int j], some ps => some ((i, j) :: ps) | _, _ => none
def oSortedP : Op1
  | .lst ds => match pairsD? ds with | some ps => some (ow (.lst ((sortP ps).map dP))) | none => none
  | _ => none
/-- what a tracked tuple of two ints holds -/
def keyV (H : Hp) : V → Int × Int
  | .ref a => keyP H a
  | _ => (0, 0)
section
variable {X : Cx} {C : Cs}
theorem reps_keys {F H : Hp} (l : Le F H) : ∀ {vs : List V} {ds : List D} {ps : List (Int × Int)}, Reps C F vs ds → pairsD? ds = some ps →
    vs.map (keyV H) = ps ∧ (∀ x ∈ vs, ∃ t, x = V.ref t ∧ H t = some (.tup [.int (keyV H x).1, .int (keyV H x).2]) ∧ Rep C F x (dP (keyV H x)))
  | _, _, _, .nil, e => by cases e; exact ⟨rfl, fun x m => nomatch m⟩
  | v :: _, _, _, .cons (d := d) r t, e => by
    unfold pairsD? at e
    split at e
    · rename_i i j qs e2
      cases e
      obtain ⟨h1, h2⟩ := reps_keys l t e2
      cases r with
      | tup h z q =>
        rename_i a xs
        cases q with
        | cons q1 q2 =>
          cases q1
          cases q2 with
          | cons q3 q4 =>
            cases q3
            cases q4
            have hh := l _ _ h
            have ek : keyV H (.ref a) = (i, j) := by
              show keyP H a = _
              unfold keyP
              rw [hh]
            refine ⟨by rw [List.map_cons, ek, h1], fun x m => ?_⟩
            rcases List.mem_cons.mp m with rfl | m
            · rw [ek]
              exact ⟨a, rfl, hh, .tup h z (.cons (.int _) (.cons (.int _) .nil))⟩
            · exact h2 x m
    · cases e
theorem reps_of_keys {F H : Hp} {vs : List V} (h : ∀ x ∈ vs, ∃ t, x = V.ref t ∧ H t = some (.tup [.int (keyV H x).1, .int (keyV H x).2]) ∧ Rep C F x (dP (keyV H x))) : ∀ {ys : List V}, (∀ y ∈ ys, y ∈ vs) → Reps C F ys ((ys.map (keyV H)).map dP)
  | [], _ => .nil
  | y :: ys, m => by
    obtain ⟨_, _, _, r⟩ := h y (m y List.mem_cons_self)
    exact .cons r (reps_of_keys h fun z hz => m z (List.mem_cons_of_mem _ hz))
theorem c_sortedP : CallOk1 X C (.builtin "sorted") oSortedP := by
  refine ⟨_, cr_sortedPO, fun x dx F H b Q l i rx e k => ?_⟩
  unfold oSortedP at e
  split at e
  · split at e
    · rename_i ds ps hi
      cases e
      obtain ⟨a, vs, rfl, ha, z, r⟩ := ro_lst l rx
      obtain ⟨h1, h2⟩ := reps_keys l r hi
      refine ⟨a, vs, keyV H, rfl, SqL.of ha, fun x m => ?_, fun ys p hs hb hn => ?_⟩
      · obtain ⟨t, e1, e2, _⟩ := h2 x m
        exact ⟨t, e1, e2⟩
      · have hp := hb.perm
        have ey : ys.map (keyV H) = sortP ps := by
          refine upP_uniq (List.pairwise_map.mpr hs) (sortP_up ps) ?_
          refine (hp.map (keyV H)).trans ?_
          rw [h1]
          exact (sortP_perm ps).symm
        refine q_lst (ds := (sortP ps).map dP) l i k hn (by rw [hp.length_eq]; exact z) ?_
        rw [← ey]
        exact reps_of_keys h2 fun y m => hp.mem_iff.mp m
    · cases e
  · cases e
end
end Sx

set_option Elab.async false
set_option linter.all false
set_option maxRecDepth 100000
set_option maxHeartbeats 4000000
/-! Sx30: x.pop() of an own list (own work). -/
namespace Sx
open PySem PySem.Spec PyProof.Rows L2
/-- the list without its last -/
def cutEnd : List D → Option (List D)
  | [] => none
  | d :: ds => some ((d :: ds).dropLast)
def sPop (i : Nat) : S := fun ρ g => match ρ[i]? with
  | some (some ⟨.ow, .lst ds⟩) => (match cutEnd ds with | some ds1 => .nx (ρ.set i (some (ow (.lst ds1)))) g | none => .no)
  | _ => .no
section
variable {X : Cx} {C : Cs} {W : WX} {i : Nat} {x : Str} {p apos cpos pos : Pos}
theorem ss_pop (hN : X.N[i]? = some x := by rfl) (hv : Vis X.env.scope x := by first | exact Or.inl rfl | exact Or.inr (Or.inl rfl) | exact Or.inr (Or.inr rfl)) (hd : (x == ("__debug__" : Str)) = false := by decide) (hcd : (x == ("__classdict__" : Str)) = false := by decide)
    (hbase : attributeBase (.Name x p) "pop" X.env (eval (.Name x p) X.env) = eval (.Name x p) X.env := by rfl) (hline : (apos.endLine == cpos.line) = true := by rfl)
    (hsw : swapsWith (.Call (.Attribute (.Name x p) "pop" apos) [] [] cpos) none pos.line X.env = pure false := by rfl) : SS X C W (.Expr (.Call (.Attribute (.Name x p) "pop" apos) [] [] cpos) pos) (sPop i) := by
  refine ps_imp (ps_expr (pe_bm0 PySem.F.plainAttrs_list PySem.F.slot_list_pop PySem.F.type_list_pop mt_pop (pe_var hN hv hd hcd) hbase hline) hsw) ?_
  rintro D σ H ⟨F0, H0, F, ρ, g, rel, h⟩
  unfold sPop at h
  split at h
  · rename_i ds hq
    split at h
    · rename_i ds1 e1
      obtain ⟨a, hs, own, ha0⟩ := rel.own hq
      obtain ⟨vs, hv, hz, rv⟩ := own.lst
      have hl : vs.length = ds.length := rv.length
      have ne : ds ≠ [] := fun z => by subst z; cases e1
      have e2 : ds1 = ds.take (ds.length - 1) := by
        cases ds with
        | nil => exact absurd rfl ne
        | cons d ds =>
          have : (d :: ds).dropLast = ds1 := Option.some.inj e1
          rw [← this, List.dropLast_eq_take]
      have h0 : 0 < ds.length := List.length_pos_iff.mpr ne
      have hy : vs[vs.length - 1]? = some (vs[vs.length - 1]'(by omega)) := List.getElem?_eq_getElem _
      refine ⟨.ref a, hs, .inl ⟨rfl, _, SqL.of hv⟩, a, vs, _, rfl, rfl, hv, hy, ?_⟩
      refine h σ F _ (.refl F) (rel.mut hq hs (.lst upd_same (by rw [List.length_dropLast]; omega) ?_))
      rw [List.dropLast_eq_take, e2, ← hl]
      exact rv.take _
    · exact h.elim
  · exact h.elim
end
end Sx

set_option Elab.async false
set_option linter.all false
set_option maxRecDepth 100000
set_option maxHeartbeats 4000000
/-! Sx31: x[::-1], x a list or a tuple (own work). -/
namespace Sx
open PySem PySem.Spec PyProof.Rows L2 HT
section
variable {prog : Program} {w : World} {A : Around} {E : Value → Shared → Prop} {s : Shared}
theorem adjust_rev (n : Nat) : Builtin.Slice.sliceAdjust none none (-1) (n : Int) = ((n : Int) - 1, -1) := by
  unfold Builtin.Slice.sliceAdjust
  simp
theorem places_rev (n : Nat) : Builtin.Slice.slicePlaces ((n : Int) - 1) (-1) (-1) = n := by
  unfold Builtin.Slice.slicePlaces
  have h1 : ¬ ((-1 : Int) > 0) := by omega
  rw [if_neg h1]
  by_cases h : (n : Int) - 1 > -1
  · rw [if_pos h]
    have : ((n : Int) - 1 - -1 - 1) / (- -1) + 1 = n := by
      rw [show (- -1 : Int) = 1 from rfl, Int.ediv_one]
      omega
    rw [this]
    exact Int.toNat_natCast n
  · rw [if_neg h]
    omega
theorem sliceApplied_rev {sl : Addr} {vs : Value} {n : Nat} {Q : Int × Int × Nat → Shared → Prop} (hs : s.heap.IsSliceOf sl .none .none vs) (ps : IsPart vs (some (-1))) (h : Q ((n : Int) - 1, -1, n) s) :
    wpAny (model prog w) A (Builtin.Slice.sliceApplied (.ref sl) (pure (n : Int))) Q E s := by
  obtain ⟨os, hos, hcs, hds⟩ := id hs
  unfold Builtin.Slice.sliceApplied Builtin.Slice.sliceFields
  refine wpAny_bind (wpAny_bind (wpAny_field hos hds (x := .none) rfl (wpAny_bind (wpAny_field hos hds (x := .none) rfl (wpAny_bind (wpAny_field hos hds (x := vs) rfl (wpAny_pure ?_)))))))
  refine wpAny_bind (slicePart_ ps ?_)
  show wpAny _ _ (if ((-1 : Int) == 0) = true then _ else _) _ _ s
  rw [if_neg (by decide)]
  refine wpAny_bind (slicePart_none (wpAny_bind (slicePart_none (wpAny_bind (wpAny_pure ?_)))))
  show wpAny _ _ (match Builtin.Slice.sliceAdjust none none (-1) (n : Int) with | (lo, hi) => pure (lo, (-1 : Int), Builtin.Slice.slicePlaces lo hi (-1))) _ _ s
  rw [adjust_rev n]
  show wpAny _ _ (pure ((n : Int) - 1, (-1 : Int), Builtin.Slice.slicePlaces ((n : Int) - 1) (-1) (-1))) _ _ s
  rw [places_rev]
  exact wpAny_pure h
theorem filter_all {α : Type} (l : List α) : (List.range l.length).filterMap (fun k => l[k]?) = l := by
  induction l with
  | nil => rfl
  | cons a l ih =>
    rw [List.length_cons, List.range_succ_eq_map, List.filterMap_cons, List.filterMap_map]
    show a :: List.filterMap ((fun k => (a :: l)[k]?) ∘ Nat.succ) (List.range l.length) = a :: l
    congr 1
theorem pick_rev (xs : Array Value) : ((List.range xs.size).filterMap fun (k : Nat) => xs[(((xs.size : Int) - 1) + (k : Int) * (-1)).toNat]?).toArray = xs.toList.reverse.toArray := by
  congr 1
  have e : ∀ k ∈ List.range xs.size, xs[(((xs.size : Int) - 1) + (k : Int) * (-1)).toNat]? = xs.toList.reverse[k]? := by
    intro k hk
    have hk := List.mem_range.mp hk
    have : (((xs.size : Int) - 1) + (k : Int) * (-1)).toNat = xs.size - 1 - k := by omega
    rw [this, List.getElem?_reverse (by rw [Array.length_toList]; exact hk), Array.length_toList, Array.getElem?_toList]
  have f : ∀ (l : List Nat) (p q : Nat → Option Value), (∀ k ∈ l, p k = q k) → l.filterMap p = l.filterMap q := by
    intro l p q h
    induction l with
    | nil => rfl
    | cons a l ih =>
      rw [List.filterMap_cons, List.filterMap_cons, h a List.mem_cons_self, ih fun k hk => h k (List.mem_cons_of_mem _ hk)]
  rw [f _ _ _ e]
  have := filter_all xs.toList.reverse
  rw [List.length_reverse, Array.length_toList] at this
  exact this
theorem getItem_tuple_rev {t sl : Addr} {items : Array Value} {vs : Value} {Q : Value → Shared → Prop} (ht : IsTup s.heap t items) (hs : s.heap.IsSliceOf sl .none .none vs) (ps : IsPart vs (some (-1)))
    (h : Q (.ref s.heap.objs.size) { s with heap := s.heap.push { cls := .type "tuple", data := .seq items.toList.reverse.toArray } })
    (hsz : items.size ≤ sizeLine) : wpAny (model prog w) A (getItem (.ref t) (.ref sl)) Q E s := by
  have htake : sizeOk (.seq items.toList.reverse.toArray) := by
    show items.toList.reverse.toArray.size ≤ sizeLine
    rw [List.size_toArray, List.length_reverse, Array.length_toList]
    exact hsz
  obtain ⟨os, hos, hcs, hds⟩ := id hs
  have hTs : s.TypeIs (.ref sl) "slice" := ⟨os, hos, hcs⟩
  unfold getItem
  try with_reducible refine wpAny_holding ?_
  first | refine wpAny_bind (wpAny_pure ?_) | skip
  refine wpAny_bind (wpAny_sequenceKey ht.typeIs (by decide) ?_)
  refine wpAny_bind (wpAny_callSpecial?_slot (name := Str.ofString "__getitem__") ht.typeIs PyProof.Rows.slot_tuple_getitem
    (wpAny_call_entry PyProof.Rows.slot_tuple_getitem ht.typeIs entry_tuple_getitem ?_ (args_tuple_getitem _ _)))
  show wpAny _ _ (Builtin.Tuple.tupleItemsOf (.ref t) >>= _) _ _ s
  refine wpAny_bind (tupleItemsOf_ ht ?_)
  refine wpAny_bind (wpAny_typeOf hTs ?_)
  rw [if_pos (by decide)]
  refine wpAny_bind (sliceApplied_rev hs ps ?_)
  have hno : ¬ ((((items.size : Int) - 1) == 0 && (-1 : Int) == 1 && items.size == items.size) = true) := by
    rw [show ((-1 : Int) == 1) = false from rfl, Bool.and_false, Bool.false_and]
    exact Bool.false_ne_true
  show wpAny _ _ (if (((items.size : Int) - 1) == 0 && (-1 : Int) == 1 && items.size == items.size) = true then _ else _) _ _ s
  rw [if_neg hno, pick_rev]
  first
    | exact wpAny_bind (m := Builtin.Tuple.tupleExact _) (wpAny_newObj_type (wpAny_pure ⟨_, rfl, wpAny_pure h⟩) htake)
    | exact wpAny_bind (m := Builtin.Tuple.tupleExact _) (wpAny_newObj_type (wpAny_bind (wpAny_pure (wpAny_pure ⟨_, rfl, wpAny_pure h⟩))) htake)
    | exact wpAny_bind (wpAny_bind (m := Builtin.Tuple.tupleExact _) (wpAny_newObj_type (wpAny_pure (wpAny_pure ⟨_, rfl, wpAny_pure h⟩)) htake))
    | exact wpAny_bind (wpAny_bind (m := Builtin.Tuple.tupleExact _) (wpAny_newObj_type (wpAny_pure ⟨_, rfl, wpAny_pure h⟩) htake))
end
section
variable {X : Cx} {C : Cs} {W : WX} {pos : Pos}
def tRevA (K : PySem.W.Frag) (te : TE) : TE := fun σ H Q => te σ H fun x H1 => ∃ a xs, x = .ref a ∧ ((SqL K H1 a xs ∧ ∀ p, H1 p = none → Q (.ref p) (upd H1 p (.lst xs.reverse))) ∨ (SqT K H1 a xs ∧ ∀ p, H1 p = none → Q (.ref p) (upd H1 p (.tup xs.reverse))))
theorem pe_revA {e : Expr} {te : TE} {k : Nat} {p1 p2 p3 : Pos} (he : PE X e te) : PE X (.Subscript e (.Slice none none (some (.UnaryOp .USub (.Constant (.int 1) k p1) p2)) p3) pos) (tRevA X.K te) := by
  refine ⟨fun pins s σ H Q I h => ?_⟩
  refine Subscript_ (thn (he.run pins s σ H _ I h) fun v s1 ⟨x, H1, I1, r1, q1⟩ => ?_)
  obtain ⟨a, xs, ex, hx⟩ := q1
  subst ex
  cases r1
  have hst : PO X (some (.UnaryOp .USub (.Constant (.int 1) k p1) p2)) (tPart (tUn (rU fun i => .int (-i)) (tC (.int 1)))) := po_some (pe_un un_neg pe_int)
  refine wpAny_Slice (thn (po_none.run pins s1 σ H1 (fun o H2 => o = none ∧ H2 = H1) I1 ⟨rfl, rfl⟩) fun vl s2 ⟨l, H2, I2, pl, el, e2⟩ => ?_)
  subst el e2
  refine thn (po_none.run pins s2 σ H2 (fun o H3 => o = none ∧ H3 = H2) I2 ⟨rfl, rfl⟩) fun vu s3 ⟨u, H3, I3, pu, eu, e3⟩ => ?_
  subst eu e3
  refine thn (hst.run pins s3 σ H3 (fun o H4 => o = some (-1) ∧ H4 = H3) I3 ⟨1, rfl, -1, rfl, rfl, rfl⟩) fun vs s4 ⟨o, H4, I4, ps, eo, e4⟩ => ?_
  subst eo e4
  have I5 : Inv X pins σ H4 { s4 with heap := s4.heap.push { cls := .type "slice", data := .fields #[vl, vu, vs] } } := I4.kept (t' := s4.toks) fun b ob q => Heap.get?_push_of_some _ q
  show wpAny (model X.prog X.w) X.A (subscriptTail e (.Slice none none (some (.UnaryOp .USub (.Constant (.int 1) k p1) p2)) p3) (.ref a) (.ref s4.heap.objs.size)) (EP X pins σ Q) X.xe { s4 with heap := s4.heap.push { cls := .type "slice", data := .fields #[vl, vu, vs] } }
  rcases hx with ⟨hx, q⟩ | ⟨hx, q⟩
  · obtain ⟨its, r, ht, hz⟩ := I5.list hx
    have hlen := r.length
    refine tail_any (ops := [.ref a, .ref s4.heap.objs.size]) ht.isList.typeIs (PySem.slot_list_getitem.lookup) ?_ (by with_unfolding_all rfl)
    refine wpAny_getItem_list_slice ht.isList (Heap.IsSliceOf.new _ vl vu vs) pl pu ps (by decide) ?_ (by rw [List.size_toArray]; omega)
    rw [PySem.W.krv_pick]
    refine ⟨.ref _, _, I5.laid (t' := s4.toks) (o := .lst xs.reverse) (fun b ob q => Heap.get?_push_of_some _ q) (Nat.le_refl _) ?_, rfl, q _ (I5.hok.fresh (Nat.le_refl _))⟩
    exact ⟨by rw [List.length_reverse]; exact hz, _, 0, r.reverse, Heap.get?_push_size _ rfl⟩
  · obtain ⟨its, r, ht, hz⟩ := I5.tuple hx
    have hlen := r.length
    cases pl
    cases pu
    refine tail_any (ops := [.ref a, .ref s4.heap.objs.size]) ht.typeIs (PyProof.Rows.slot_tuple_getitem.lookup) ?_ (by with_unfolding_all rfl)
    refine getItem_tuple_rev ht (Heap.IsSliceOf.new _ .none .none vs) ps ?_ (by rw [List.size_toArray]; omega)
    refine ⟨.ref _, _, I5.laid (t' := s4.toks) (o := .tup xs.reverse) (fun b ob q => Heap.get?_push_of_some _ q) (Nat.le_refl _) ?_, rfl, q _ (I5.hok.fresh (Nat.le_refl _))⟩
    exact ⟨by rw [List.length_reverse]; exact hz, its.reverse, r.reverse, _, Heap.get?_push_size _ rfl, rfl, 0, by rw [List.toList_toArray]⟩
theorem se_revA {e : Expr} {f : E} {k : Nat} {p1 p2 p3 : Pos} (he : SE X C W e f) : SE X C W (.Subscript e (.Slice none none (some (.UnaryOp .USub (.Constant (.int 1) k p1) p2)) p3) pos) (eUn oRevS f) := by
  refine pe_imp (pe_revA he) fun σ H Q t => ?_
  refine one_op (r := fun x H1 Q => ∃ a xs, x = .ref a ∧ ((SqL X.K H1 a xs ∧ ∀ p, H1 p = none → Q (.ref p) (upd H1 p (.lst xs.reverse))) ∨ (SqT X.K H1 a xs ∧ ∀ p, H1 p = none → Q (.ref p) (upd H1 p (.tup xs.reverse))))) (fun x dx F H b Q l i rx e k => ?_) t
  unfold oRevS at e
  split at e
  · cases e
    obtain ⟨a, vs, rfl, ha, z, r⟩ := ro_lst l rx
    exact ⟨a, vs, rfl, .inl ⟨SqL.of ha, fun p hp => q_lst l i k hp (by rw [List.length_reverse]; exact z) r.reverse⟩⟩
  · cases e
    obtain ⟨a, vs, rfl, _, ha, z, r⟩ := ro_tup l rx
    exact ⟨a, vs, rfl, .inr ⟨SqT.of ha, fun p hp => q_tup l k hp (by rw [List.length_reverse]; exact z) r.reverse⟩⟩
  · cases e
end
end Sx

set_option Elab.async false
set_option linter.all false
set_option maxRecDepth 100000
set_option maxHeartbeats 4000000
/-! Sx32: the law's def, a question ahead of the drawing (own work). -/
namespace Sx
open PySem PySem.Spec PyProof.Rows L2
section
variable {P : Program} {w : World} {K : PySem.W.Frag} {mg : Str → Option Value} {base : Heap} {C : Cs}
theorem law_fn2 {x qual : Str} {st : Stmt} {f fb : Addr} {fd fdb : FuncData} {N : List Str} {a sv bx : Str} {k : Nat} {s : S} {rest : List Stmt} {p1 p2 p3 p4 p5 : Pos} {pc : Expr} {pb : List Stmt} {pp : Pos} {c : E} {fb0 : S} (hst : C.st = none) (hent : C.ent = none) (hcod : C.codes = [])
    (Fd : FunD K x qual (defArgs st) (defBody st) (defScope st) [] [] f fd) (Sc : FnScope N [a] (defScope st)) (hN0 : N[0]? = some a) (hN1 : N[1]? = some sv) (hn : 1 < N.length)
    (hbody : defBody st = .If pc pb [] pp :: .Assign [.Name sv p1] (.Call (.Name bx p2) [.Name a p3] [] p4) p5 :: rest) (hva : Vis (defScope st) a) (hvs : (defScope st).names.lookup sv = some .local) (hd : (a == ("__debug__" : Str)) = false) (hcd : (a == ("__classdict__" : Str)) = false) (hdb : (bx == ("__debug__" : Str)) = false)
    (hsw : ∀ env, swapsWith (.Call (.Name bx p2) [.Name a p3] [] p4) (some (.Name sv p1)) p5.line env = pure false)
    (Fb : FnOk P w K mg base (L2.CX P w) k fb fdb [a] (spBegin C K)) (hgb : (defScope st).names.lookup bx = some .globalImplicit) (hmb : mg bx = some (.ref fb)) (hkb : PySem.W.keepIn K (.ref fb) = true) (hbb : Binds K fdb [a] [])
    (hpre : c (List.replicate N.length none) none = .ok (sh (.bl false)) none)
    (hc : ∀ (A : Around) (outer : List Env) (s0 : Shared) (H : Hp) (E : XK), Room k (A.deeper (envOfC qual (defScope st) s0.heap.objs.size f (.ref (codeAt K f)))) → (A.deeper (envOfC qual (defScope st) s0.heap.objs.size f (.ref (codeAt K f)))).guards = some [] →
      SB (cxOf (L2.CX P w) P w K mg base N qual (defScope st) f (.ref (codeAt K f)) A outer s0 H E) C (fun cls d _ H => E cls d H) pc c ∧ SSs (cxOf (L2.CX P w) P w K mg base N qual (defScope st) f (.ref (codeAt K f)) A outer s0 H E) C (fun cls d _ H => E cls d H) pb fb0)
    (hrest : ∀ (A : Around) (outer : List Env) (s0 : Shared) (H : Hp) (E : XK) (x y z : Addr), Room k (A.deeper (envOfC qual (defScope st) s0.heap.objs.size f (.ref (codeAt K f)))) → (A.deeper (envOfC qual (defScope st) s0.heap.objs.size f (.ref (codeAt K f)))).guards = some [] →
      SSs (cxOf (L2.CX P w) P w K mg base N qual (defScope st) f (.ref (codeAt K f)) A outer s0 H E) (CsS C x y z) (fun cls d _ H => E cls d H) rest s) :
    FnG P w K mg base (k + 1) f fd [a] (spLaw C K (mLaw N.length s)) := by
  refine fng_body Fd Sc (fun vs H Q E h => ?_) fun A outer s0 H vs Q E hr hgd h => ?_
  · obtain ⟨ns, a, g', rfl, _⟩ := h
    rfl
  obtain ⟨ns, ad, g', rfl, hS, hl, htb, hm, hq⟩ := h
  rw [hbody]
  have tk : Takes (cxOf (L2.CX P w) P w K mg base N qual (defScope st) f (.ref (codeAt K f)) A outer s0 H E) (fun cls d _ H => E cls d H) := takes_of rfl rfl rfl rfl
  have call : PE (cxOf (L2.CX P w) P w K mg base N qual (defScope st) f (.ref (codeAt K f)) A outer s0 H E) (.Call (.Name bx p2) [.Name a p3] [] p4) (fun σ H' Q' => (tCons (tVar 0) tNil) σ H' fun vs H1 => spBegin C K vs H1 Q' (WE (fun cls d _ H => E cls d H) σ)) := by
    refine ⟨fun pins s σ H' Q' I h => ?_⟩
    refine wpAny_Call_Name_kw (ld_glob I hgb hmb ?_ hdb)
    refine PySem.W.callWith_K (h₀ := base) I.ok.mod.kin hkb (thn ((pa_cons (pe_var (i := 0) hN0 hva hd hcd) pa_nil rfl).run p4 pins s σ H' _ I h) fun us s1 got => ?_) rfl rfl
    obtain ⟨vs, H1, I1, r, q⟩ := got
    exact ⟨I1.kIn, run_own (X := cxOf (L2.CX P w) P w K mg base N qual (defScope st) f (.ref (codeAt K f)) A outer s0 H E) (E := WE fun cls d _ H => E cls d H) (FnG.of Fb) hr hgd hbb (passAt tk σ) I1 r q⟩
  obtain ⟨hcc, hpb⟩ := hc A outer s0 H E hr hgd
  refine ⟨_, pss_cons (ps_if hcc hpb pss_nil) (pss_cons (ps_set (i := 1) Sc.nd hN1 (.inl hvs) call (hsw _) (.inr hvs)) (law_rest fun x y z => hrest A outer s0 H E x y z hr hgd)), ?_⟩
  have hlen : (L2.start N [V.ref ad]).length = N.length := by
    unfold L2.start
    simp only [List.length_append, List.length_map, List.length_cons, List.length_nil, List.length_replicate]
    omega
  refine ⟨fun _ => none, H, fun _ => none, List.replicate N.length none, none, rel_none hent hst (fun _ _ z => by cases z) ⟨htb, (fun p hp => by rw [hcod] at hp; cases hp), fun _ _ z => by cases z⟩ hlen, ?_⟩
  rw [hpre]
  refine ⟨false, rfl, fun F1 H1 a1 => ?_⟩
  refine iteF ?_
  have hS1 : SqL K H1 ad (ns.map V.int) := by
    have kp : ∀ o, H ad = some o → (∀ ps, o ≠ .tbl ps) → H1 ad = some o := fun o h t => a1.stp.keep ad o h (by unfold InSt; rw [hst]; simp) t
    rcases hS with (h | ⟨o, h⟩) | h
    · exact .inl (.inl (kp _ h fun ps z => by cases z))
    · exact .inl (.inr ⟨o, kp _ h fun ps z => by cases z⟩)
    · exact .inr h
  refine ⟨.ref ad, by simp [L2.start], F1, ns, ad, rfl, hS1, hl, a1.stp.le, ⟨a1.tabs.1, a1.tabs.2, a1.tabs.3⟩, fun x y z F' H' hx hy hz stp tb sto => ?_⟩
  refine ⟨x, y, z, F1, H1, F', roL N.length, some (gs0 ns), ?_, ?_⟩
  · have nst : ∀ a, ¬ InSt C a := fun a => by unfold InSt; rw [hst]; simp
    refine ⟨⟨stp.ff, stp.le, fun a o h n t => stp.keep a o h (nst a) t, stp.there, stp.priv⟩, sto, ⟨tb.1, tb.2, tb.3⟩, ?_, fun i b h => ?_, fun i j bi bj c hi hj ti tj _ _ => ?_, fun pq zq => ?_⟩
    · unfold roL L2.start
      simp only [List.length_set, List.length_replicate, List.length_append, List.length_map, List.length_cons, List.length_nil]
      omega
    · unfold roL at h
      by_cases e : 1 = i
      · subst e
        rw [List.getElem?_set_self (by rw [List.length_replicate]; exact hn)] at h
        cases h
        refine ⟨.ref x, List.getElem?_set_self (by unfold L2.start; simp only [List.length_replicate, List.length_append, List.length_map, List.length_cons, List.length_nil]; omega), ?_⟩
        exact Rep.st rfl
      · rw [List.getElem?_set_ne e, List.getElem?_replicate] at h
        split at h <;> cases h
    · unfold roL at hi
      by_cases e : 1 = i
      · subst e
        rw [List.getElem?_set_self (by rw [List.length_replicate]; exact hn)] at hi
        cases hi
        cases ti
      · rw [List.getElem?_set_ne e, List.getElem?_replicate] at hi
        split at hi <;> cases hi
    · rw [show (CsS C x y z).ent = C.ent from rfl, hent] at zq
      cases zq
  · unfold mLaw at hm
    cases q : s (roL N.length) (some (gs0 ns)) with
    | nx ρ g => rw [q] at hm; cases hm
    | rt b g =>
      rw [q] at hm
      cases hm
      intro v F1 H1 a1 r1
      have r1 : Rep (CsS C x y z) F1 v (.bl true) := r1
      cases r1
      exact hq H1
    | er x ρ g => rw [q] at hm; cases hm
    | bk ρ g => rw [q] at hm; cases hm
    | ct ρ g => rw [q] at hm; cases hm
    | no => rw [q] at hm; cases hm
end
end Sx

set_option Elab.async false
set_option linter.all false
set_option maxRecDepth 100000
set_option maxHeartbeats 4000000
/-! Sx33: a, b = x, y where a name is a cell: by way of the pair, which nobody keeps (own work). -/
namespace Sx
open PySem PySem.Spec PyProof.Rows L2
section
variable {X : Cx} {C : Cs} {W : WX} {pos : Pos}
theorem ss_parC {i j : Nat} {x y : Str} {a b : Expr} {f h : E} {px py pt : Pos} {kt k2 : Nat} {pt2 : Pos} (hc : X.calm = true) (hN : X.N.Nodup) (ha : SE X C W a f) (hb : SE X C W b h) (hi : X.N[i]? = some x := by rfl) (hj : X.N[j]? = some y := by rfl)
    (hx : Loc X.env.scope x := by first | exact .inl rfl | exact .inr rfl) (hy : Loc X.env.scope y := by first | exact .inl rfl | exact .inr rfl)
    (hfx : X.fn x = true ∨ X.env.scope.names.lookup x = some .local := by first | exact .inl rfl | exact .inr rfl | assumption) (hfy : X.fn y = true ∨ X.env.scope.names.lookup y = some .local := by first | exact .inl rfl | exact .inr rfl | assumption)
    (hw : swappedStores [.Tuple [.Name x px, .Name y py] kt pt] (.Tuple [a, b] k2 pt2) X.env = pure none := by rfl)
    (hs : swapsWithSole [.Tuple [.Name x px, .Name y py] kt pt] (.Tuple [a, b] k2 pt2) pos.line X.env = pure false := by rfl)
    (h1 : (assignEach [.Tuple [.Name x px, .Name y py] kt pt] X.env).map (·.2) = [assign (.Tuple [.Name x px, .Name y py] kt pt) X.env] := by rfl)
    (hs1 : assignEach [.Name x px, .Name y py] X.env = (false, assign (.Name x px) X.env) :: assignEach [.Name y py] X.env := by rfl) (hs2 : assignEach [.Name y py] X.env = (false, assign (.Name y py) X.env) :: assignEach [] X.env := by rfl)
    (he : starEach [a, b] X.env = (false, eval a X.env) :: starEach [b] X.env := by rfl) (he2 : starEach [b] X.env = (false, eval b X.env) :: starEach [] X.env := by rfl) :
    SS X C W (.Assign [.Tuple [.Name x px, .Name y py] kt pt] (.Tuple [a, b] k2 pt2) pos) (sPar i j f h) := by
  refine ps_imp (ps_asg (pe_tup (pa_cons ha (pa_cons hb pa_nil he2) he)) (pg_tup (n := 2) hc (pgs_cons (pg_name hN hi hx hfx) (pgs_cons (pg_name hN hj hy hfy) pgs_nil (by rw [hs2]; rfl)) (by rw [hs1]; rfl)) (by rw [hs1, hs2]; rfl) (by rw [hs1, hs2]; rfl)) hs hw h1) ?_
  rintro D σ H ⟨F0, H0, F, ρ, g, rel, hh⟩
  rw [sPar_0] at hh
  refine ⟨F0, H0, F, ρ, g, rel, onOk_mono (on_r rel (.refl F) hh) (fun b g1 h1 v F1 H1 a1 r1 => ?_) fun x g1 h1 => h1⟩
  split at h1
  · exact h1.elim
  · rename_i nb
    have rel1 := rel.step a1
    refine ⟨F0, H0, F1, ρ, g1, rel1, onOk_mono (on_r rel1 a1.stp.ff h1) (fun c g2 h2 w F2 H2 a2 r2 => ?_) fun x g2 h2 => h2⟩
    split at h2
    · exact h2.elim
    · rename_i nc
      have rel2 := (rel.set a1 r1 (fun z => nb z) i).set a2 r2 (fun z => nc z) j
      refine ⟨show 2 ≤ sizeLine by decide, fun p hp => ?_⟩
      have q : Quiet C F2 H2 F2 (upd H2 p (.tup [v, w])) := .newOw a2.stp.le hp
      exact ⟨p, [v, w], rfl, SqT.of upd_same, rfl, v, [w], rfl, w, [], rfl, rfl, h2 _ F2 _ (a1.stp.ff.trans a2.stp.ff) (rel2.step (rel2.after.quiet q))⟩
end
end Sx

set_option Elab.async false
set_option linter.all false
set_option maxRecDepth 100000
set_option maxHeartbeats 4000000
/-! Sx34: a tuple once (own work). -/
namespace Sx
open PySem PySem.Spec PyProof.Rows L2
theorem tuple_mul1 (l : Addr) (items : Array Value) (n : Nat) (dd : Option Addr) (sl : Array (Option Value)) (u : Tok) :
    Meets (Builtin.«tuple.__mul__» ⟨[.ref l, .int 1 u], []⟩) (fun _ R s => s.heap.get? l = some { cls := .type "tuple", dict := dd, data := .seq items n, slots := sl } ∧ R (.ok (.ret (Value.ref l))) s) :=
  .of_wp fun prog w A R s h => by
    obtain ⟨hp, g, d, tk, os⟩ := s
    obtain ⟨hl, h⟩ := h
    have f1 := AutoSeq1.idx_int
    have c0 : (decide ((1 : Int) < -(2 ^ 63)) || decide ((1 : Int) ≥ 2 ^ 63)) = false := by decide
    have c1 : (items.isEmpty || (1 : Int) == 1) = true := by rw [beq_self_eq_true, Bool.or_true]
    wp_walk using wpAny_loadPart' hl
    repeat (first
      | (refine wpAny_ite_false (decide_eq_false (by rw [c0]; exact Bool.false_ne_true)) ?_; wp_walk using wpAny_loadPart' hl)
      | (refine wpAny_ite_true (decide_eq_true c1) ?_; wp_walk using wpAny_loadPart' hl))
    exact ⟨_, rfl, h⟩
def rRepT1 (K : PySem.W.Frag) : R2 := fun x y H Q => ∃ l xs, x = .ref l ∧ y = .int 1 ∧ SqT K H l xs ∧ Q (.ref l) H
section
variable {X : Cx} {C : Cs}
theorem op_repT1 : OpR X (binaryOp .Mult) (rRepT1 X.K) := by
  intro pins s σ H x y v u Q I rx ry h
  obtain ⟨l, xs, rfl, rfl, hT, q⟩ := h
  cases rx
  obtain ⟨t, rfl⟩ := ry
  obtain ⟨its, r, ⟨⟨cls, dd, data, sl⟩, ho, hc, n, hd⟩, hs⟩ := I.tuple hT
  simp only at hc hd
  subst hc hd
  refine wpAny_binaryOp_repeat_ref (T := "tuple") (U := "int") (by decide) ⟨_, ho, rfl⟩ (fun s' => typeIs_int s' 1 t) noFill_tuple_mul F.fills_int_mul F.slot_int_rmul repeat_tuple F.slot_int_index.lookup
    (call_meets F.slot_int_rmul (typeIs_int s 1 t) F.entry_int_rmul (F.args_int_rmul_2 _ _) (int_rmul_tuple 1 t l its.toArray n dd sl)
      ⟨ho, rfl, ⟨_, ho, rfl⟩, call_meets F.slot_tuple_mul ⟨_, ho, rfl⟩ F.entry_tuple_mul (F.args_tuple_mul_2 _ _) (tuple_mul1 l its.toArray n dd sl t) ⟨ho, ?_⟩⟩)
  exact ⟨.ref l, H, I, rfl, q⟩
/-- a tuple so often: once it is the tuple itself -/
def oMulT : Op2 := fun x y => match x, y with
  | .tup xs, .int k => if k = 1 then some (sh (.tup xs)) else oMul (.tup xs) (.int k)
  | x, y => oMul x y
theorem ok_mulT : OpOk X C (binaryOp .Mult) oMulT := by
  obtain ⟨r, h1, h2⟩ := ok_mul (X := X) (C := C)
  refine ⟨_, op_repT1.or h1, fun x y dx dy F H b Q l i rx ry e k => ?_⟩
  unfold oMulT at e
  split at e
  · split at e
    · rename_i hk
      subst hk
      cases e
      obtain ⟨a, vs, rfl, fa, ha, za, ra⟩ := ro_tup l rx
      rw [ro_int ry]
      exact .inl ⟨a, vs, rfl, rfl, SqT.of ha, q_here l k rfl (.tup fa za ra)⟩
    · exact .inr (h2 x y _ _ F H b Q l i rx ry e k)
  · exact .inr (h2 x y _ _ F H b Q l i rx ry e k)
end
end Sx

set_option Elab.async false
set_option linter.all false
set_option maxRecDepth 100000
set_option maxHeartbeats 4000000
/-! Sx35: a dict display of integers (own work). -/
namespace Sx
open PySem PySem.Spec PyProof.Rows L2
def eDkI (kv : List (Int × Int)) : E := fun _ g => .ok (ow (.dk (kv.map fun p => (p.1, .int p.2)))) g
def trsI (kv : List (Int × Int)) : List (TE × TE) := kv.map fun p => (tC (.int p.1), tC (.int p.2))
def kvI (kv : List (Int × Int)) : List (Key × V) := kv.map fun p => (.inl p.1, .int p.2)
theorem pairs_int : ∀ (kv : List (Int × Int)) (σ : L2.St) (H : Hp) (Q : List (V × V) → Hp → Prop), Q ((kvI kv).map fun kv => (kV kv.1, kv.2)) H → tPairs (trsI kv) σ H Q
  | [], _, _, _, q => q
  | p :: kv, σ, H, Q, q => pairs_int kv σ H _ q
theorem rep_int {C : Cs} {F : Hp} : ∀ kv : List (Int × Int), RepK C F (kvI kv) (kv.map fun p => (p.1, .int p.2))
  | [] => .nil
  | p :: kv => .cons (.int _) (rep_int kv)
section
variable {X : Cx} {C : Cs} {W : WX} {pos : Pos}
theorem se_dkI {keys : List (Option Expr)} {values : List Expr} (kv : List (Int × Int)) (h : PPs X pos keys values (trsI kv)) (hall : keys.all (·.isSome) = true := by rfl) (hl : keys.length = values.length := by rfl) (h0 : keys ≠ [] := by simp) (h15 : keys.length ≤ 15 := by decide) (hk : kv.length ≤ 15 := by decide) (hm : mergeK [] (kvI kv) = kvI kv := by rfl) :
    SE X C W (.Dict keys values pos) (eDkI kv) := by
  refine pe_imp (pe_disp h hall hl h0 h15) ?_
  rintro σ H Q ⟨F0, H0, F, ρ, g, rel, hh⟩ p hp
  refine pairs_int kv σ _ _ ⟨upd_same, kvI kv, rfl, by unfold kvI; rw [List.length_map]; exact hk, ?_⟩
  rw [hm, upd_upd]
  have q : Quiet C F H F (upd H p (.dK (kvI kv))) := .newOw rel.stp.le hp
  exact hh (.ref p) _ _ (rel.after.quiet q) ⟨p, hp, rfl, rel.stp.le.free hp, fun z => InSt.there rel.st z hp, .dk upd_same (rep_int kv)⟩
end
end Sx

set_option Elab.async false
set_option linter.all false
set_option maxRecDepth 100000
set_option maxHeartbeats 4000000
/-! Sx36: `is`, `is not` of two truth values. -/
namespace Sx
open PySem PySem.Spec PyProof.Rows L2
section
variable {X : Cx} {C : Cs}
def oNotF : Op2
  | .bl a, .bl b => some (sh (.bl (!(a == b))))
  | _, _ => none
theorem op_notF : OpR X (compareOp .IsNot) (fun x y H Q => ∃ i j, x = .bl i ∧ y = .bl j ∧ Q (.bl (!(i == j))) H) := by
  intro pins s σ H x y v u Q I rx ry h
  obtain ⟨i, j, rfl, rfl, q⟩ := h
  cases (show v = Value.bool i from rx)
  cases (show u = Value.bool j from ry)
  refine wpAny_isNot_plain rfl ⟨.bl (!(i == j)), H, I, ?_, q⟩
  cases i <;> cases j <;> rfl
theorem ok_notF : OpOk X C (compareOp .IsNot) oNotF := by
  refine ⟨_, op_notF, fun x y dx dy F H b Q l i rx ry e k => ?_⟩
  cases dx with
  | bl p =>
    cases dy with
    | bl q =>
      cases e
      exact ⟨p, q, ro_bl rx, ro_bl ry, q_here l k rfl (.bl _)⟩
    | _ => cases e
  | _ => cases dy <;> cases e
end
end Sx

set_option Elab.async false
set_option linter.all false
set_option maxRecDepth 100000
set_option maxHeartbeats 4000000
/-! Sx37: x.index(e) where x is no variable. -/
namespace Sx
open PySem PySem.Spec PyProof.Rows L2
def eIndexE (h f : E) : E := fun ρ g => (h ρ g).bind fun x g1 => match x.d with
  | .lst ds => (f ρ g1).bind fun y g2 => match oIndex ds y.d with | some b => .ok b g2 | none => .no
  | _ => .no
section
variable {X : Cx} {C : Cs} {W : WX} {pos : Pos}
/-- h.index(e), h no variable -/
theorem se_indexE {xe : Expr} {h : E} {apos : Pos} {e : Expr} {f : E} (hu : X.A.units + 65 < cLine) (hva : SE X C W xe h) (he : SE X C W e f)
    (hbase : attributeBase xe "index" X.env (eval xe X.env) = eval xe X.env := by rfl)
    (hfew : ((backTo pos (starEach [e] X.env)).all (fun x => !x.1) && (backToKw pos (keywordEach [] X.env)).all (fun x => x.1.isSome) && decide ([e].length + ([] : List Keyword).length + (if ([] : List Keyword).isEmpty then 0 else 1) < 30)) = true := by rfl)
    (hline : (apos.endLine == pos.line) = true := by rfl) (hs : starEach [e] X.env = (false, eval e X.env) :: starEach [] X.env := by rfl) (hplain : (backTo pos (starEach [] X.env)).any (·.1) = false := by rfl) :
    SE X C W (.Call (.Attribute xe "index" apos) [e] [] pos) (eIndexE h f) := by
  refine pe_imp (pe_bm PySem.F.plainAttrs_list PySem.F.slot_list_index PySem.F.type_list_index (mt_indexD hu) hva (pa_cons he pa_nil hs) hbase hfew hline hs hplain) ?_
  rintro σ H Q ⟨F0, H0, F, ρ, g, rel, hh⟩
  unfold eIndexE at hh
  rw [onOk_bind] at hh
  refine ⟨F0, H0, F, ρ, g, rel, onOk_mono hh (fun b g1 h1 u F1 H1 a1 r1 => ?_) fun x g1 h1 => h1⟩
  have rel1 := rel.step a1
  cases eb : b.d with
  | lst ds =>
    rw [eb] at h1
    dsimp only at h1
    rw [onOk_bind] at h1
    have ro1 := r1.ro
    rw [eb] at ro1
    obtain ⟨a, vs, rfl, ha, hz, rr⟩ := ro_lst a1.stp.le ro1
    refine ⟨.inl ⟨rfl, _, SqL.of ha⟩, F0, H0, F1, ρ, g1, rel1, onOk_mono h1 (fun c g2 h2 w F2 H2 a2 r2 => ?_) fun x g2 h2 cls d F2 H2 a2 e2 => h2 cls d F2 H2 (a1.trans a2) e2⟩
    unfold oIndex at h2
    split at h2
    · rename_i bb hbb
      split at hbb
      · rename_i hp
        rw [Bool.and_eq_true] at hp
        split at hbb
        · rename_i j hj
          cases hbb
          have ro2 := ro1.step a2.stp
          have pd : ds.all (plainAt 23) = true := by simpa only [plainAt] using (show plainAt (23 + 1) (.lst ds) = true from hp.1)
          obtain ⟨hlt, hjt, hmin⟩ := List.findIdx?_eq_some_iff_getElem.mp hj
          have gz : ds[j]? = some ds[j] := List.getElem?_eq_getElem hlt
          have pj : plainAt DEEP ds[j] = true := plain_up 23 _ (all_get pd gz)
          refine ⟨a, w, c.d.py, pys ds, j, (ds[j]).py, rfl, rfl, dps a2.stp.le hp.1 ro2, dp_ro a2.stp.le hp.2 r2.ro, ?_, shaped_of deep64 hp.2, by rw [pys_get, gz]; rfl, ?_, fun m z' hm hz' => ?_, h2 _ F2 H2 (a1.trans a2) (.int _)⟩
          · have := shaped_of deep64 hp.1
            simpa only [D.py] using this
          · rw [eqv_at _ _ _ pj hp.2]; exact hjt
          · rw [pys_get] at hz'
            have hml : m < ds.length := Nat.lt_trans hm hlt
            rw [List.getElem?_eq_getElem hml] at hz'
            cases hz'
            rw [eqv_at _ _ _ (plain_up 23 _ (all_get pd (List.getElem?_eq_getElem hml))) hp.2]
            have := hmin m hm
            show eqAt DEEP ds[m] c.d = false
            exact Bool.eq_false_iff.mpr this
        · cases hbb
      · cases hbb
    · exact h2.elim
  | _ => rw [eb] at h1; exact h1.elim
end
end Sx

set_option Elab.async false
set_option linter.all false
set_option maxRecDepth 100000
set_option maxHeartbeats 4000000
/-! Sx38: max of four. -/
namespace Sx
open PySem PySem.Spec PyProof.Rows L2
def max4 (a b c d : Int) : Int := let m := if b > a then b else a; let n := if c > m then c else m; if d > n then d else n
section
variable {prog : Program} {w : World} {A : Around} {E : Value → Shared → Prop} {s : Shared}
theorem args_max4 (a b c d : Value) : argsOk "max" ⟨[a, b, c, d], []⟩ := by unfold argsOk; kernel_rfl
theorem call_max_four {a b c d : Value} {Q : Value → Shared → Prop}
    (h : wpAny (model prog w) A.in1 (pyIter (.ref s.heap.objs.size)) (fun it s₂ => ∃ I fp wr n P St bt, it = .ref I ∧ Walks prog w A.in1 I fp wr n P St ∧ St 0 s₂.heap ∧ (∀ b ∈ fp, b < s₂.heap.objs.size) ∧ 0 < n ∧ CmpOf prog w A.in1 .Gt P bt ∧
      ∀ v h' tk, P (argBest bt (n - 1)) v → (∀ b o, b ∉ wr → s₂.heap.get? b = some o → h'.get? b = some o) → Q v { s₂ with heap := h', toks := tk }) E
      { s with heap := s.heap.push { cls := .type "tuple", data := .seq #[a, b, c, d] } }) :
    wpAny (model prog w) A (call (.builtin "max") [a, b, c, d]) Q E s := by
  have hname : (toString "max" ++ toString ".loop" : String) = "max.loop" := by decide
  refine call_function_tree F.kind_max F.plain_max F.entry_max (args_max4 _ _ _ _) ?_
  show wpAny _ A.in1 (Builtin.Builtins.bindParams "max" ["key", "default"] 0 ⟨[], []⟩ >>= _) _ _ s
  refine wpAny_bind (wpAny_of_eq (show Builtin.Builtins.bindParams "max" ["key", "default"] 0 ⟨[], []⟩ = pure [none, none] from rfl) ?_)
  show wpAny _ A.in1 (newTuple [a, b, c, d] >>= _) _ _ s
  refine wpAny_bind (wpAny_newObj_type ?_)
  refine wpAny_bind (wpAny_mono h (fun it s₂ h₂ => ?_) fun _ _ e => e)
  obtain ⟨I, fp, wr, n, P, St, bt, rfl, W, hst, hfp, hn, hcmp, hQ⟩ := h₂
  refine wpAny_bind (wpAny_newObj_type ?_)
  have hSf : s₂.heap.objs.size ∉ fp := fun hm => Nat.lt_irrefl _ (hfp _ hm)
  rw [hname]
  refine wpAny_pure ⟨plainId_quiet F.plain_max_loop _, codeAny_max_loop_first W bt hcmp s₂.heap.objs.size hSf hn (W.frame _ _ _ hst fun b _ o e => Heap.get?_push_of_some _ e) (Heap.get?_push_size _ rfl) fun v h' tk hP hk => ?_⟩
  exact hQ v h' tk hP fun b o hbw e => hk b o hbw (Nat.ne_of_lt (Heap.lt_size e)) (Heap.get?_push_of_some _ e)
theorem max_four_ints {a b c d : Int} {t u x y : Tok} {Q : Value → Shared → Prop} (hh : A.handled = none)
    (h : ∀ z h' tk, (∀ d o, s.heap.get? d = some o → h'.get? d = some o) → Q (.int (max4 a b c d) z) { s with heap := h', toks := tk }) :
    wpAny (model prog w) A (call (.builtin "max") [.int a t, .int b u, .int c x, .int d y]) Q E s := by
  have hT : (s.heap.push { cls := .type "tuple", data := .seq #[.int a t, .int b u, .int c x, .int d y] }).IsTuple s.heap.objs.size (intItems #[(a, t), (b, u), (c, x), (d, y)]) := ⟨_, Heap.get?_push_size _ rfl, rfl, 0, by simp [intItems]⟩
  refine call_max_four (wpAny_pyIter_tuple hT ?_)
  have hsz : (s.heap.push { cls := .type "tuple", data := .seq #[.int a t, .int b u, .int c x, .int d y] }).objs.size = s.heap.objs.size + 1 := Heap.size_push ..
  refine ⟨_, [_, s.heap.objs.size], [_], _, _, _, _, rfl, Walks.tuple (A := A.in1) hh _ s.heap.objs.size (by rw [hsz]; exact Nat.ne_of_lt (Nat.lt_succ_self _)) (intItems #[(a, t), (b, u), (c, x), (d, y)]),
    ⟨⟨_, Heap.get?_push_size _ rfl, rfl, rfl⟩, hT.push _⟩, fun d hd => ?_, by simp [intItems], CmpOf.ints_gt (numAt #[(a, t), (b, u), (c, x), (d, y)]) (fun _ _ => intItems_at), fun v h' tk hP hk => ?_⟩
  · show d < ((s.heap.push _).push _).objs.size
    rw [Heap.size_push, hsz]
    rcases List.mem_cons.mp hd with rfl | hd
    · rw [hsz]; exact Nat.lt_succ_self _
    · rcases List.mem_cons.mp hd with rfl | hd
      · exact Nat.lt_succ_of_lt (Nat.lt_succ_self _)
      · cases hd
  · have hold : ∀ d o, s.heap.get? d = some o → h'.get? d = some o := fun d o e => by
      refine hk d o (fun hm => ?_) (Heap.get?_push_of_some _ (Heap.get?_push_of_some _ e))
      rcases List.mem_cons.mp hm with e1 | hm
      · have := Heap.lt_size e; rw [e1, hsz] at this; exact Nat.lt_irrefl _ (Nat.lt_of_succ_lt this)
      · cases hm
    have hv : ∃ z, v = Value.int (max4 a b c d) z := by
      have hP' : (intItems #[(a, t), (b, u), (c, x), (d, y)])[argBest (fun i j => decide (numAt #[(a, t), (b, u), (c, x), (d, y)] i > numAt #[(a, t), (b, u), (c, x), (d, y)] j)) 3]? = some v := by
        have hsz2 : (intItems #[(a, t), (b, u), (c, x), (d, y)]).size - 1 = 3 := by simp [intItems]
        rw [← hsz2]; exact hP
      obtain ⟨z, hz⟩ := intItems_at hP'
      refine ⟨z, ?_⟩
      rw [hz]
      congr 1
      by_cases h1 : b > a
      · by_cases h2 : c > b
        · by_cases h3 : d > c <;> simp [argBest, numAt, max4, h1, h2, h3]
        · by_cases h3 : d > b <;> simp [argBest, numAt, max4, h1, h2, h3]
      · by_cases h2 : c > a
        · by_cases h3 : d > c <;> simp [argBest, numAt, max4, h1, h2, h3]
        · by_cases h3 : d > a <;> simp [argBest, numAt, max4, h1, h2, h3]
    obtain ⟨z, rfl⟩ := hv
    exact h z h' tk hold
end
section
variable {X : Cx} {C : Cs} {W : WX} {pos : Pos}
def rMax4 : List V → Hp → VK → Prop := fun xs H Q => ∃ i j k l, xs = [.int i, .int j, .int k, .int l] ∧ Q (.int (max4 i j k l)) H
theorem call_max4 (hc : X.calm = true) : CallR X (.builtin "max") rMax4 := by
  intro pins s σ H xs us Q I r h
  obtain ⟨i, j, k, l, rfl, q⟩ := h
  cases r with
  | cons r1 r =>
    obtain ⟨u1, u2, u3, rfl, r2, r3, r4⟩ := vals3 r
    obtain ⟨t1, rfl⟩ := r1
    obtain ⟨t2, rfl⟩ := r2
    obtain ⟨t3, rfl⟩ := r3
    obtain ⟨t4, rfl⟩ := r4
    exact max_four_ints (I.ok.hd hc) fun z h' tk kk => ⟨V.int (max4 i j k l), H, I.kept kk, ⟨z, rfl⟩, q⟩
def oMax4 (x y z w : D) : Option B := match x with
  | .int i => (match y with | .int j => (match z with | .int k => (match w with | .int l => some (sh (.int (max4 i j k l))) | _ => none) | _ => none) | _ => none)
  | _ => none
def eQuad (o : D → D → D → D → Option B) (f h k l : E) : E := fun ρ g => (f ρ g).bind fun x g1 => (h ρ g1).bind fun y g2 => (k ρ g2).bind fun z g3 => (l ρ g3).bind fun w g4 => match o x.d y.d z.d w.d with | some b => .ok b g4 | none => .no
theorem se_max4 {a b c e : Expr} {f h k l : E} {p : Pos} (hc : X.calm = true) (hg : Gl X "max") (hm : X.mg "max" = none) (ha : SE X C W a f) (hb : SE X C W b h) (hcc : SE X C W c k) (he : SE X C W e l)
    (h1 : starEach [a, b, c, e] X.env = (false, eval a X.env) :: starEach [b, c, e] X.env := by rfl) (h2 : starEach [b, c, e] X.env = (false, eval b X.env) :: starEach [c, e] X.env := by rfl) (h3 : starEach [c, e] X.env = (false, eval c X.env) :: starEach [e] X.env := by rfl) (h4 : starEach [e] X.env = (false, eval e X.env) :: starEach [] X.env := by rfl)
    (hpl : (backTo pos (starEach [b, c, e] X.env)).any (·.1) = false := by rfl) : SE X C W (.Call (.Name "max" p) [a, b, c, e] [] pos) (eQuad oMax4 f h k l) := by
  refine pe_imp (pe_callB (call_max4 hc) hg hm (by decide +kernel) (pa_cons ha (pa_cons hb (pa_cons hcc (pa_cons he pa_nil h4) h3) h2) h1) (by decide) (by decide) h1 hpl) ?_
  rintro σ H Q ⟨F0, H0, F, ρ, g, rel, hh⟩
  unfold eQuad at hh
  rw [onOk_bind] at hh
  refine ⟨F0, H0, F, ρ, g, rel, onOk_mono hh (fun x g1 h1 u F1 H1 a1 r1 => ?_) fun x g1 h1 => h1⟩
  rw [onOk_bind] at h1
  have rel1 := rel.step a1
  refine ⟨F0, H0, F1, ρ, g1, rel1, onOk_mono h1 (fun y g2 h2 v F2 H2 a2 r2 => ?_) fun x g2 h2 cls d F2 H2 a2 e2 => h2 cls d F2 H2 (a1.trans a2) e2⟩
  rw [onOk_bind] at h2
  have rel2 := rel1.step a2
  refine ⟨F0, H0, F2, ρ, g2, rel2, onOk_mono h2 (fun z g3 h3 w F3 H3 a3 r3 => ?_) fun x g3 h3 cls d F3 H3 a3 e3 => h3 cls d F3 H3 ((a1.trans a2).trans a3) e3⟩
  rw [onOk_bind] at h3
  have rel3 := rel2.step a3
  refine ⟨F0, H0, F3, ρ, g3, rel3, onOk_mono h3 (fun zz g4 h4 ww F4 H4 a4 r4 => ?_) fun x g4 h4 cls d F4 H4 a4 e4 => h4 cls d F4 H4 (((a1.trans a2).trans a3).trans a4) e4⟩
  cases ex : x.d <;> (rw [ex] at h4) <;> try exact h4.elim
  rename_i i
  cases ey : y.d <;> (rw [ey] at h4) <;> try exact h4.elim
  rename_i j
  cases ez : z.d <;> (rw [ez] at h4) <;> try exact h4.elim
  rename_i k
  cases ew : zz.d <;> (rw [ew] at h4) <;> try exact h4.elim
  rename_i l
  have q1 := r1.ro
  have q2 := r2.ro
  have q3 := r3.ro
  have q4 := r4.ro
  rw [ex] at q1
  rw [ey] at q2
  rw [ez] at q3
  rw [ew] at q4
  rw [ro_int q1, ro_int q2, ro_int q3, ro_int q4]
  exact ⟨i, j, k, l, rfl, h4 _ F4 H4 (((a1.trans a2).trans a3).trans a4) (.int _)⟩
end
end Sx

set_option Elab.async false
set_option linter.all false
set_option maxRecDepth 100000
/-! Sx39: f(q = e, p = e, ..), every parameter named, in any order (own work). -/
namespace Sx
open PySem PySem.Spec PyProof.Rows L2
/-- what is at some places of a list -/
def pick {α : Type} (pm : List Nat) (l : List α) : List α := pm.filterMap fun i => l[i]?
/-- a def, its arguments told in another order -/
def permF (pm : List Nat) (m : Fn) : Fn := fun ds g => m (pick pm ds) g
theorem reps_at {C : Cs} {F : Hp} : ∀ {vs : List V} {ds : List D}, Reps C F vs ds → ∀ i : Nat, (vs[i]? = none ∧ ds[i]? = none) ∨ ∃ v d, vs[i]? = some v ∧ ds[i]? = some d ∧ Rep C F v d
  | _, _, .nil, i => .inl ⟨by simp, by simp⟩
  | _, _, .cons h r, 0 => .inr ⟨_, _, by simp, by simp, h⟩
  | _, _, .cons h r, i + 1 => by simpa using reps_at r i
theorem reps_pick {C : Cs} {F : Hp} {vs : List V} {ds : List D} (r : Reps C F vs ds) : ∀ pm, Reps C F (pick pm vs) (pick pm ds)
  | [] => .nil
  | i :: pm => by
    have h := reps_pick r pm
    rcases reps_at r i with ⟨h1, h2⟩ | ⟨v, d, h1, h2, h3⟩
    · unfold pick at h ⊢
      rw [List.filterMap_cons_none h1, List.filterMap_cons_none h2]
      exact h
    · unfold pick at h ⊢
      rw [List.filterMap_cons_some h1, List.filterMap_cons_some h2]
      exact .cons h3 h
theorem vals_at : ∀ {vs : List V} {us : List Value}, Vals vs us → ∀ i : Nat, (vs[i]? = none ∧ us[i]? = none) ∨ ∃ v u, vs[i]? = some v ∧ us[i]? = some u ∧ RelV v u
  | _, _, .nil, i => .inl ⟨by simp, by simp⟩
  | _, _, .cons h r, 0 => .inr ⟨_, _, by simp, by simp, h⟩
  | _, _, .cons h r, i + 1 => by simpa using vals_at r i
theorem vals_pick {vs : List V} {us : List Value} (r : Vals vs us) : ∀ pm, Vals (pick pm vs) (pick pm us)
  | [] => .nil
  | i :: pm => by
    have h := vals_pick r pm
    rcases vals_at r i with ⟨h1, h2⟩ | ⟨v, d, h1, h2, h3⟩
    · unfold pick at h ⊢
      rw [List.filterMap_cons_none h1, List.filterMap_cons_none h2]
      exact h
    · unfold pick at h ⊢
      rw [List.filterMap_cons_some h1, List.filterMap_cons_some h2]
      exact .cons h3 h
theorem eArgs_len : ∀ (gs : List E) (ρ : Ro) (g g1 : G) (ds : List D), eArgs gs ρ g = .ok ds g1 → ds.length = gs.length := by
  intro gs
  induction gs with
  | nil => intro ρ g g1 ds e; cases e; rfl
  | cons f gs ih =>
    intro ρ g g1 ds e
    rw [eArgs_cons] at e
    cases q : f ρ g with
    | er x g2 => rw [q] at e; cases e
    | no => rw [q] at e; cases e
    | ok b g2 =>
      rw [q] at e
      replace e : (match b.t with | .bw => R.no | _ => (eArgs gs ρ g2).bind fun ds g2 => .ok (b.d :: ds) g2) = R.ok ds g1 := e
      obtain ⟨t, d⟩ := b
      cases q2 : eArgs gs ρ g2 with
      | er x g3 => rw [q2] at e; cases t <;> cases e
      | no => rw [q2] at e; cases t <;> cases e
      | ok es g3 =>
        rw [q2] at e
        cases t with
        | bw => cases e
        | sh => cases e; rw [List.length_cons, List.length_cons, ih _ _ _ _ q2]
        | ow => cases e; rw [List.length_cons, List.length_cons, ih _ _ _ _ q2]
theorem bindsKP {K : PySem.W.Frag} {x qual : Str} {params : Arguments} {body : List Stmt} {scope : Scope} {f : Addr} {fd : FuncData} {ps : List Str} (F : FunD K x qual params body scope [] [] f fd) (ks : List Str) (pm : List Nat)
    (h : ∀ (kV doc pM : Value) (an : Option Addr) (cdv ct : Value) (ws : List Value), ws.length = ks.length → bindArgs (PySem.W.fnOf x qual params body scope .none kV doc pM an cdv ct) ⟨[], ks.zip ws⟩ = pure (ps.zip (pick pm ws))) (s : Shared) (ws : List Value) (hl : ws.length = ks.length) : BindsTo s fd ⟨[], ks.zip ws⟩ (ps.zip (pick pm ws)) := by
  obtain ⟨oc, od, dV, kV, doc, pM, an, cdv, ct, osl, rfl, lk, hcd, hD, hK⟩ := F.ex
  rcases hD with ⟨_, rfl⟩ | ⟨e, _⟩
  · exact .of_eq (h kV doc pM an cdv ct ws hl)
  · exact absurd rfl e
section
variable {X : Cx} {C : Cs} {W : WX} {pos : Pos}
theorem se_callKP {kws : List Keyword} {fs : List E} {k : Nat} {f : Addr} {fd : FuncData} {ps : List Str} {m : Fn} {x : Str} {p : Pos} (ks : List Str) (pm : List Nat) (F : FnG X.prog X.w X.K X.mg X.base k f fd ps (spF C m)) (hr : Room k X.A) (hgd : X.A.guards = some []) (hg : Gl X x) (hm : X.mg x = some (.ref f)) (hk : PySem.W.keepIn X.K (.ref f) = true)
    (hb : ∀ (s : Shared) (ws : List Value), X.K.In s.heap → ws.length = ks.length → BindsTo s fd ⟨[], ks.zip ws⟩ (ps.zip (pick pm ws))) (tk : Takes X W) (ha : SK X C W kws fs) (hfs : fs.length = ks.length := by rfl) (hall : (backToKw pos (keywordEach kws X.env)).all (·.1.isSome) = true := by rfl) (hks : (backToKw pos (keywordEach kws X.env)).filterMap (·.1) = ks := by rfl)
    (hdb : (x == ("__debug__" : Str)) = false := by decide) (hpl : ((backTo pos (starEach [] X.env)).any (·.1) || (backToKw pos (keywordEach kws X.env)).any (·.1.isNone)) = false := by rfl) :
    SE X C W (.Call (.Name x p) [] kws pos) (eCall (permF pm m) fs) := by
  have hc : PE X (.Call (.Name x p) [] kws pos) (fun σ H Q => tA C W fs σ H fun vs H1 => vs.length = ks.length ∧ spF C m (pick pm vs) H1 Q (WE W σ)) := by
    constructor
    intro pins s σ H Q I h
    refine wpAny_Call_Name_kw (ld_glob I hg hm ?_ hdb)
    refine PySem.W.callWith_KW0 (h₀ := X.base) I.ok.mod.kin hk hall (thn (ha.run pos pins s σ H _ I h) fun ws s1 got => ?_) hpl
    obtain ⟨vs, H1, I1, r, hl, q⟩ := got
    refine ⟨I1.kIn, ?_⟩
    rw [hks]
    have hl : ws.length = ks.length := by
      rw [← r.length]
      exact hl
    refine wpAny_call (codeAny_mono (F.run X.A X.stack s1 H1 ⟨[], ks.zip ws⟩ (pick pm ws) (pick pm vs) Q (WE W σ) hr hgd I1.env0 (hb s1 ws I1.kIn hl) (vals_pick r pm) q) fun res s' got => ?_)
    match res, got with
    | .error e, got => exact passAt tk σ pins H1 s1 e s' I1 got
    | .ok (.ret u), got => exact I1.after got
  refine pe_imp hc ?_
  rintro σ H Q ⟨F0, H0, F, ρ, g, rel, h⟩
  rw [eCall_0] at h
  unfold eCall0 at h
  rw [onOk_bind] at h
  refine ⟨F0, H0, F, ρ, g, rel, ?_⟩
  cases q : eArgs fs ρ g with
  | er x g1 => rw [q] at h; exact h
  | no => rw [q] at h; exact h
  | ok ds g1 =>
    rw [q] at h
    intro vs F1 H1 a1 r1
    replace h : onOk (m (pick pm ds) g1) _ _ := h
    refine ⟨by rw [r1.length, eArgs_len _ _ _ _ _ q, hfs], F1, g1, pick pm ds, a1.stp.le, a1.st, a1.tabs, reps_pick r1 pm, ?_⟩
    exact onOk_mono h (fun b g2 h2 v F2 H2 a2 rb => h2 v F2 H2 (a1.trans a2) (rb.early a1)) fun x g2 h2 cls d F2 H2 a2 ex => h2 cls d F2 H2 (a1.trans a2) ex
end
end Sx

set_option Elab.async false
set_option linter.all false
set_option maxRecDepth 100000
set_option maxHeartbeats 4000000
/-! Sx40: a tuple no times (own work). -/
namespace Sx
open PySem PySem.Spec PyProof.Rows L2
theorem tuple_mul0 (l : Addr) (items : Array Value) (n : Nat) (dd : Option Addr) (sl : Array (Option Value)) (u : Tok) (hi : items.isEmpty = false) :
    Meets (Builtin.«tuple.__mul__» ⟨[.ref l, .int 0 u], []⟩) (fun _ R s => s.heap.get? l = some { cls := .type "tuple", dict := dd, data := .seq items n, slots := sl } ∧
      R (.ok (.ret (Value.ref s.heap.objs.size))) { s with heap := s.heap.push { cls := Value.type "tuple", data := Data.seq #[] }, toks := s.toks }) :=
  .of_wp fun prog w A R s h => by
    obtain ⟨hp, g, d, tk, os⟩ := s
    obtain ⟨hl, h⟩ := h
    have f1 := AutoSeq1.idx_int
    have c0 : (decide ((0 : Int) < -(2 ^ 63)) || decide ((0 : Int) ≥ 2 ^ 63)) = false := by decide
    have c1 : (items.isEmpty || (0 : Int) == 1) = false := by rw [hi]; rfl
    have c2 : (decide ((0 : Int) ≤ 0) || items.isEmpty) = true := by rw [hi]; rfl
    wp_walk using wpAny_loadPart' hl
    repeat (first
      | (refine wpAny_ite_false (decide_eq_false (by rw [c0]; exact Bool.false_ne_true)) ?_; wp_walk using wpAny_loadPart' hl)
      | (refine wpAny_ite_false (decide_eq_false (by rw [c1]; exact Bool.false_ne_true)) ?_; wp_walk using wpAny_loadPart' hl)
      | (refine wpAny_ite_true (decide_eq_true c2) ?_; wp_walk using wpAny_loadPart' hl))
    exact ⟨_, rfl, h⟩
def rRepT0 (K : PySem.W.Frag) : R2 := fun x y H Q => ∃ l xs, x = .ref l ∧ y = .int 0 ∧ SqT K H l xs ∧ xs ≠ [] ∧ ∀ p, H p = none → Q (.ref p) (upd H p (.tup []))
section
variable {X : Cx} {C : Cs}
theorem op_repT0 : OpR X (binaryOp .Mult) (rRepT0 X.K) := by
  intro pins s σ H x y v u Q I rx ry h
  obtain ⟨l, xs, rfl, rfl, hT, hne, q⟩ := h
  cases rx
  obtain ⟨t, rfl⟩ := ry
  obtain ⟨its, r, ⟨⟨cls, dd, data, sl⟩, ho, hc, n, hd⟩, hs⟩ := I.tuple hT
  simp only at hc hd
  subst hc hd
  have hle : its.length = xs.length := r.length.symm
  have hi : its.toArray.isEmpty = false := by
    cases its with
    | nil => exact absurd (List.eq_nil_of_length_eq_zero hle.symm) hne
    | cons a b => rfl
  refine wpAny_binaryOp_repeat_ref (T := "tuple") (U := "int") (by decide) ⟨_, ho, rfl⟩ (fun s' => typeIs_int s' 0 t) noFill_tuple_mul F.fills_int_mul F.slot_int_rmul repeat_tuple F.slot_int_index.lookup
    (call_meets F.slot_int_rmul (typeIs_int s 0 t) F.entry_int_rmul (F.args_int_rmul_2 _ _) (int_rmul_tuple 0 t l its.toArray n dd sl)
      ⟨ho, rfl, ⟨_, ho, rfl⟩, call_meets F.slot_tuple_mul ⟨_, ho, rfl⟩ F.entry_tuple_mul (F.args_tuple_mul_2 _ _) (tuple_mul0 l its.toArray n dd sl t hi) ⟨ho, ?_⟩⟩)
  refine ⟨.ref s.heap.objs.size, _, I.laid (t' := s.toks) (o := .tup []) (fun b ob q => Heap.get?_push_of_some _ q) (Nat.le_refl _) ?_, rfl, q _ (I.hok.fresh (Nat.le_refl _))⟩
  exact ⟨Nat.zero_le _, [], .nil, IsTup.new _ _⟩
/-- a tuple so often: no times it is the empty tuple -/
def oMulZ : Op2 := fun x y => match x, y with
  | .tup xs, .int k => if k = 0 ∧ xs ≠ [] then some (sh (.tup [])) else oMulT (.tup xs) (.int k)
  | x, y => oMulT x y
theorem ok_mulZ : OpOk X C (binaryOp .Mult) oMulZ := by
  obtain ⟨r, h1, h2⟩ := ok_mulT (X := X) (C := C)
  refine ⟨_, op_repT0.or h1, fun x y dx dy F H b Q l i rx ry e k => ?_⟩
  unfold oMulZ at e
  split at e
  · split at e
    · rename_i hk
      obtain ⟨rfl, hne⟩ := hk
      cases e
      obtain ⟨a, vs, rfl, fa, ha, za, ra⟩ := ro_tup l rx
      rw [ro_int ry]
      refine .inl ⟨a, vs, rfl, rfl, SqT.of ha, fun z => hne ?_, fun p hp => q_tup l k hp (Nat.zero_le _) .nil⟩
      subst z; cases ra; rfl
    · exact .inr (h2 x y _ _ F H b Q l i rx ry e k)
  · exact .inr (h2 x y _ _ F H b Q l i rx ry e k)
end
end Sx

set_option Elab.async false
set_option linter.all false
set_option maxRecDepth 100000
set_option maxHeartbeats 1000000
/-! Sx41: is, is not, of two truths. -/
namespace Sx
open PySem PySem.Spec PyProof.Rows L2
def oIsBl : Op2
  | .bl a, .bl b => some (sh (.bl (decide (a = b))))
  | _, _ => none
def oNotBl : Op2
  | .bl a, .bl b => some (sh (.bl (!decide (a = b))))
  | _, _ => none
section
variable {X : Cx} {C : Cs}
theorem ok_isBl : OpOk X C (compareOp .Is) oIsBl := by
  refine ⟨_, op_isBl, fun x y dx dy F H b Q l i rx ry e k => ?_⟩
  unfold oIsBl at e
  split at e
  · cases e
    exact ⟨_, _, ro_bl rx, ro_bl ry, q_here l k rfl (.bl _)⟩
  · cases e
theorem ok_notBl : OpOk X C (compareOp .IsNot) oNotBl := by
  refine ⟨_, op_notBl, fun x y dx dy F H b Q l i rx ry e k => ?_⟩
  unfold oNotBl at e
  split at e
  · cases e
    exact ⟨_, _, ro_bl rx, ro_bl ry, q_here l k rfl (.bl _)⟩
  · cases e
end
end Sx

set_option Elab.async false
set_option linter.all false
set_option maxRecDepth 100000
set_option maxHeartbeats 1000000
/-! Sx42: range with a step. -/
namespace Sx
open PySem PySem.Spec PyProof.Rows L2
def rangeC (lo c : Int) : Nat → List D
  | 0 => []
  | n + 1 => .int lo :: rangeC (lo + c) c n
def rgOk (a b c : Int) : Bool := decide (c ≠ 0) && decide (c.natAbs < 1073741824) && Builtin.Range.small a b c && decide (0 ≤ Builtin.Range.rangeSize a b c)
def iRange3 (f h k : E) : It := fun ρ g => (f ρ g).bind fun x g1 => (h ρ g1).bind fun y g2 => (k ρ g2).bind fun z g3 => match x.d, y.d, z.d with
  | .int a, .int b, .int c => if rgOk a b c then .ok (rangeC a c (Builtin.Range.rangeSize a b c).toNat) g3 else .no
  | _, _, _ => .no
theorem rangeC_at (c : Int) : ∀ (n i : Nat) (lo : Int), i < n → (rangeC lo c n)[i]? = some (.int (lo + (i : Nat) * c))
  | 0, _, _, h => absurd h (Nat.not_lt_zero _)
  | n + 1, 0, lo, _ => by simp [rangeC]
  | n + 1, i + 1, lo, h => by
    rw [rangeC, List.getElem?_cons_succ, rangeC_at c n i (lo + c) (by omega)]
    congr 2
    rw [Int.natCast_add, Int.add_mul]
    omega
theorem rangeC_len (c : Int) : ∀ (n : Nat) (lo : Int), (rangeC lo c n).length = n
  | 0, _ => rfl
  | n + 1, lo => by rw [rangeC, List.length_cons, rangeC_len c n]
section
variable {X : Cx} {C : Cs} {W : WX} {pos : Pos} {tg e e2 e3 : Expr} {f f2 f3 : E}
theorem walkD_rangeC {lo c : Int} {n : Nat} {F1 : Hp} {Gd : Hp → Prop} : WalkD C (Itc lo c n) (rangeC lo c n) F1 Gd := by
  unfold WalkD
  rw [rangeC_len]
  exact walk_rangeC.mono (fun _ _ => trivial) fun i H x H' hi _ y F l1 l => by
    obtain ⟨rfl, rfl⟩ := y
    exact ⟨F, _, .refl l, rangeC_at c n i lo hi, .int _⟩
theorem si_range3 {p pos : Pos} (hg : Gl X "range") (hm : X.mg "range" = none) (he : SE X C W e f) (he2 : SE X C W e2 f2) (he3 : SE X C W e3 f3) (hs : starEach [e, e2, e3] X.env = (false, eval e X.env) :: starEach [e2, e3] X.env := by rfl) (hs2 : starEach [e2, e3] X.env = (false, eval e2 X.env) :: starEach [e3] X.env := by rfl) (hs3 : starEach [e3] X.env = (false, eval e3 X.env) :: starEach [] X.env := by rfl) (hpl : (backTo pos (starEach [e2, e3] X.env)).any (·.1) = false := by rfl) :
    SI X C W tg (.Call (.Name "range" p) [e, e2, e3] [] pos) (iRange3 f f2 f3) := by
  refine pi_imp (pi_range3 hg hm (pa_cons he (pa_cons he2 (pa_cons he3 pa_nil hs3) hs2) hs) hs hpl) ?_
  rintro σ H R ⟨F0, H0, F, ρ, g, rel, h⟩
  unfold iRange3 at h
  rw [onOk_bind] at h
  refine ⟨F0, H0, F, ρ, g, rel, onOk_mono h (fun b g1 h1 v F1 H1 a1 r1 => ?_) fun x g1 h1 => h1⟩
  rw [onOk_bind] at h1
  have rel1 := rel.step a1
  refine ⟨F0, H0, F1, ρ, g1, rel1, onOk_mono h1 (fun c g2 h2 w F2 H2 a2 r2 => ?_) fun x g2 h2 cls d F2 H2 a2 e2 => h2 cls d F2 H2 (a1.trans a2) e2⟩
  rw [onOk_bind] at h2
  have rel2 := rel1.step a2
  refine ⟨F0, H0, F2, ρ, g2, rel2, onOk_mono h2 (fun k g3 h3 u F3 H3 a3 r3 => ?_) fun x g3 h3 cls d F3 H3 a3 e3 => h3 cls d F3 H3 ((a1.trans a2).trans a3) e3⟩
  split at h3
  · rename_i a n m ea en em
    have ra := r1.ro
    rw [ea] at ra
    have rn := r2.ro
    rw [en] at rn
    have rm := r3.ro
    rw [em] at rm
    rw [ro_int ra, ro_int rn, ro_int rm]
    split at h3
    · rename_i hz
      unfold rgOk at hz
      rw [Bool.and_eq_true, Bool.and_eq_true, Bool.and_eq_true, decide_eq_true_iff, decide_eq_true_iff, decide_eq_true_iff] at hz
      obtain ⟨⟨⟨z1, z2⟩, z3⟩, z4⟩ := hz
      exact ⟨a, n, m, (Builtin.Range.rangeSize a n m).toNat, rfl, ⟨z1, z2, z3, by omega⟩, h3 _ F3 H3 ((a1.trans a2).trans a3) walkD_rangeC⟩
    · exact h3.elim
  · exact h3.elim
end
end Sx

set_option Elab.async false
set_option linter.all false
set_option maxRecDepth 100000
set_option maxHeartbeats 1000000
/-! Sx43: reversed(range(n)). -/
namespace Sx
open PySem PySem.Spec PyProof.Rows L2
/-- reversed(range(n)) -/
def iRevR1 (f : E) : It := fun ρ g => (f ρ g).bind fun b g1 => match b.d with
  | .int n => if smallI n then .ok (rangeC ((n.toNat : Int) - 1) (-1) n.toNat) g1 else .no
  | _ => .no
section
variable {X : Cx} {C : Cs} {W : WX} {pos : Pos} {tg e : Expr} {f : E}
theorem si_revR1 {p p2 pos2 : Pos} (hg : Gl X "reversed") (hm : X.mg "reversed" = none) (hg2 : Gl X "range") (hm2 : X.mg "range" = none) (he : SE X C W e f) (hs : starEach [e] X.env = (false, eval e X.env) :: starEach [] X.env := by rfl) (hs2 : starEach [.Call (.Name "range" p2) [e] [] pos2] X.env = (false, eval (.Call (.Name "range" p2) [e] [] pos2) X.env) :: starEach [] X.env := by rfl) :
    SI X C W tg (.Call (.Name "reversed" p) [.Call (.Name "range" p2) [e] [] pos2] [] pos) (iRevR1 f) := by
  refine pi_imp (pi_revR hg hm (prg_1 hg2 hm2 he hs) hs2) ?_
  rintro σ H R ⟨F0, H0, F, ρ, g, rel, h⟩
  unfold iRevR1 at h
  rw [onOk_bind] at h
  refine ⟨F0, H0, F, ρ, g, rel, onOk_mono h (fun b g1 h1 v F1 H1 a1 r1 => ?_) fun x g1 h1 => h1⟩
  split at h1
  · rename_i n e
    have r := r1.ro
    rw [e] at r
    rw [ro_int r]
    split at h1
    · rename_i hz
      obtain ⟨z1, z2⟩ := small_of hz
      have w : ∀ Gd : Hp → Prop, WalkD C (Itc (0 + (((n - 0).toNat : Nat) : Int) - 1) (-1) (n - 0).toNat) (rangeC ((n.toNat : Int) - 1) (-1) n.toNat) F1 Gd := fun Gd => by
        rw [Int.sub_zero, Int.zero_add]
        exact walkD_rangeC
      exact ⟨n, rfl, by decide, by decide, z1, z2, h1 _ F1 H1 a1 (w _)⟩
    · exact h1.elim
  · exact h1.elim
end
end Sx

set_option Elab.async false
set_option linter.all false
set_option maxRecDepth 100000
set_option maxHeartbeats 1000000
/-! Sx44: list(range(n)), tuple(range(n)). -/
namespace Sx
open PySem PySem.Spec PyProof.Rows L2
/-- list(range(n)) -/
def eLstRg (f : E) : E := fun ρ g => (f ρ g).bind fun b g1 => match b.d with
  | .int n => if decide (-1000000 ≤ n) && decide (n ≤ 1000000) then .ok (ow (.lst (rangeD 0 n.toNat))) g1 else .no
  | _ => .no
/-- tuple(range(n)) -/
def eTupRg (f : E) : E := fun ρ g => (f ρ g).bind fun b g1 => match b.d with
  | .int n => if decide (-1000000 ≤ n) && decide (n ≤ 1000000) then .ok (sh (.tup (rangeD 0 n.toNat))) g1 else .no
  | _ => .no
theorem reps_rg {C : Cs} {F : Hp} : ∀ (k : Nat) (lo : Int), Reps C F ((List.range k).map fun i => V.int (lo + (i : Nat))) (rangeD lo k)
  | 0, _ => .nil
  | k + 1, lo => by
    rw [List.range_succ_eq_map, List.map_cons, List.map_map]
    have ih := reps_rg (C := C) (F := F) k (lo + 1)
    have e : ((fun i : Nat => V.int (lo + (i : Nat))) ∘ Nat.succ) = fun i : Nat => V.int (lo + 1 + (i : Nat)) := by
      funext i
      show V.int (lo + ((i + 1 : Nat) : Int)) = _
      congr 1
      omega
    rw [e]
    have e0 : lo + ((0 : Nat) : Int) = lo := by omega
    rw [e0]
    exact .cons (.int _) ih
section
variable {X : Cx} {C : Cs} {W : WX} {pos : Pos} {e : Expr} {f : E}
theorem se_lstRg {p p2 pos2 : Pos} (hc : X.calm = true) (hg : Gl X "list") (hm : X.mg "list" = none) (hg2 : Gl X "range") (hm2 : X.mg "range" = none) (he : SE X C W e f) (hs : starEach [e] X.env = (false, eval e X.env) :: starEach [] X.env := by rfl) (hs2 : starEach [.Call (.Name "range" p2) [e] [] pos2] X.env = (false, eval (.Call (.Name "range" p2) [e] [] pos2) X.env) :: starEach [] X.env := by rfl) :
    SE X C W (.Call (.Name "list" p) [.Call (.Name "range" p2) [e] [] pos2] [] pos) (eLstRg f) := by
  refine pe_imp (pe_listRg hc hg hm (prg_1 hg2 hm2 he hs) hs2) ?_
  rintro σ H Q ⟨F0, H0, F, ρ, g, rel, h⟩
  unfold eLstRg at h
  rw [onOk_bind] at h
  refine ⟨F0, H0, F, ρ, g, rel, onOk_mono h (fun b g1 h1 v F1 H1 a1 r1 => ?_) fun x g1 h1 => h1⟩
  split at h1
  · rename_i n e
    have r := r1.ro
    rw [e] at r
    rw [ro_int r]
    split at h1
    · rename_i hz
      rw [Bool.and_eq_true, decide_eq_true_iff, decide_eq_true_iff] at hz
      obtain ⟨z1, z2⟩ := hz
      refine ⟨n, rfl, ⟨by decide, by decide, by omega, by omega, by omega⟩, fun p hp => ?_⟩
      have rp : Reps C F1 (rgV 0 n) (rangeD 0 n.toNat) := by
        unfold rgV
        rw [Int.sub_zero]
        exact reps_rg _ _
      have hl : (rgV 0 n).length ≤ sizeLine := sizeL (by rw [rgV_length]; unfold LIM; omega)
      have q : Quiet C F1 H1 F1 (upd H1 p (.lst (rgV 0 n))) := .newOw a1.stp.le hp
      have ns : ¬ InSt C p := fun z => InSt.there a1.st z hp
      exact h1 (.ref p) _ _ (a1.quiet q) ⟨p, a1.none hp, rfl, a1.stp.le.free hp, ns, .lst upd_same hl (rp.le q.stp.ff)⟩
    · exact h1.elim
  · exact h1.elim
theorem se_tupRg {p p2 pos2 : Pos} (hc : X.calm = true) (hg : Gl X "tuple") (hm : X.mg "tuple" = none) (hg2 : Gl X "range") (hm2 : X.mg "range" = none) (he : SE X C W e f) (hs : starEach [e] X.env = (false, eval e X.env) :: starEach [] X.env := by rfl) (hs2 : starEach [.Call (.Name "range" p2) [e] [] pos2] X.env = (false, eval (.Call (.Name "range" p2) [e] [] pos2) X.env) :: starEach [] X.env := by rfl) :
    SE X C W (.Call (.Name "tuple" p) [.Call (.Name "range" p2) [e] [] pos2] [] pos) (eTupRg f) := by
  refine pe_imp (pe_tupRg hc hg hm (prg_1 hg2 hm2 he hs) hs2) ?_
  rintro σ H Q ⟨F0, H0, F, ρ, g, rel, h⟩
  unfold eTupRg at h
  rw [onOk_bind] at h
  refine ⟨F0, H0, F, ρ, g, rel, onOk_mono h (fun b g1 h1 v F1 H1 a1 r1 => ?_) fun x g1 h1 => h1⟩
  split at h1
  · rename_i n e
    have r := r1.ro
    rw [e] at r
    rw [ro_int r]
    split at h1
    · rename_i hz
      rw [Bool.and_eq_true, decide_eq_true_iff, decide_eq_true_iff] at hz
      obtain ⟨z1, z2⟩ := hz
      refine ⟨n, rfl, ⟨by decide, by decide, by omega, by omega, by omega⟩, fun p hp => ?_⟩
      have rp : Reps C F1 (rgV 0 n) (rangeD 0 n.toNat) := by
        unfold rgV
        rw [Int.sub_zero]
        exact reps_rg _ _
      have hl : (rgV 0 n).length ≤ sizeLine := sizeL (by rw [rgV_length]; unfold LIM; omega)
      have q : Quiet C F1 H1 (upd F1 p (.tup (rgV 0 n))) (upd H1 p (.tup (rgV 0 n))) := .newSh a1.stp.le hp
      exact h1 (.ref p) _ _ (a1.quiet q) (.tup upd_same hl (rp.le q.stp.ff))
    · exact h1.elim
  · exact h1.elim
end
end Sx

set_option Elab.async false
set_option linter.all false
set_option maxRecDepth 100000
set_option maxHeartbeats 4000000
/-! Sx45: x.remove(e), x an own list of plain data. -/
namespace Sx
open PySem PySem.Spec PyProof.Rows L2
theorem vals_erase : ∀ {vs : List V} {its : List Value} (j : Nat), Vals vs its → Vals (vs.eraseIdx j) (its.eraseIdx j)
  | _, _, _, .nil => .nil
  | _, _, 0, .cons _ t => t
  | _, _, j + 1, .cons r t => .cons r (vals_erase j t)
theorem reps_erase {C : Cs} {F : Hp} : ∀ {vs : List V} {ds : List D} (j : Nat), Reps C F vs ds → Reps C F (vs.eraseIdx j) (ds.eraseIdx j)
  | _, _, _, .nil => .nil
  | _, _, 0, .cons _ t => t
  | _, _, j + 1, .cons r t => .cons r (reps_erase j t)
def rRemD (K : PySem.W.Frag) : V → List V → Hp → VK → Prop := fun x xs H Q => ∃ (a : Addr) (y : V) (vs : List V) (d : PyData) (ds : List PyData) (j : Nat) (z : PyData), x = V.ref a ∧ xs = [y] ∧ H a = some (.lst vs) ∧ DpAll K H vs ds ∧ Dp K H y d ∧
  SeqAt.shaped (.list ds) = true ∧ SeqAt.shaped d = true ∧ ds[j]? = some z ∧ PyData.eqv z d = true ∧ (∀ (m : Nat) (z' : PyData), m < j → ds[m]? = some z' → PyData.eqv z' d = false) ∧ Q .non (upd H a (.lst (vs.eraseIdx j)))
section
variable {X : Cx} {C : Cs} {W : WX} {pos cpos apos p : Pos} {e : Expr} {f : E} {i : Nat} {x : Str}
theorem mt_removeD (hu : X.A.units + 65 < cLine) : MtM X "list.remove" (rRemD X.K) := by
  intro pins s σ H x xs v us Q I rx rxs h
  obtain ⟨a, y, vs, d, ds, j, z, rfl, rfl, hH, ha, hy, sl, sd, hz, hzj, hno, q⟩ := h
  cases rx
  cases rxs with
  | cons ry rt =>
    rename_i uy ut
    cases rt
    obtain ⟨bs, r1⟩ := Dp.reads I d y uy hy ry
    have hxs : PyData.canLayAll0 ds = true := SeqAt.canLay_of_shaped sl
    have hroom : X.A.units + 1 + min (PyData.depthAll ds) d.depth < cLine := room_in_shaped sd hu
    obtain ⟨zl, its, n, rv, hl, ho⟩ := I.lstM hH
    obtain ⟨as, h4⟩ := Dp.readsAll I ds _ its ha rv
    have hn : its.length = ds.length := SeqAt.ReadsAll.length ds its as h4
    have hmap : its.map (SeqAt.readOf s.heap) = ds := SeqAt.readsAll_map ds its as hxs h4
    have hsl := sizeLine_eq
    obtain ⟨hjd, _⟩ := List.getElem?_eq_some_iff.mp hz
    have hjl : j < its.length := by omega
    have hj : j < its.toArray.size := by simpa using hjl
    have at_ : ∀ (m : Nat) (hm : m < its.toArray.size) (z' : PyData), ds[m]? = some z' → SeqAt.readOf s.heap its.toArray[m] = z' := by
      intro m hm z' hz'
      have hml : m < its.length := by simpa using hm
      rw [← hmap, List.getElem?_map, List.getElem?_eq_getElem hml] at hz'
      have e1 : SeqAt.readOf s.heap its[m] = z' := Option.some.inj (show some (SeqAt.readOf s.heap its[m]) = some z' from hz')
      simpa using e1
    refine call_meets PySem.F.slot_list_remove ⟨_, ho, rfl⟩ PySem.F.entry_list_remove (PySem.F.args_list_remove_2 _ _)
      (SeqAt.list_removeAt a its.toArray n none #[] uy (fun u => PyData.eqv (SeqAt.readOf s.heap u) d) j hj ?_ ?_ (by rw [List.size_toArray]; omega)) ⟨ho, SeqAt.items_eqAt (vs := its.toArray) (show ReadsAll s.heap its.toArray.toList ds as from h4) r1 hxs (SeqAt.canLay_of_shaped sd) hroom, ?_⟩
    · show PyData.eqv (SeqAt.readOf s.heap its.toArray[j]) d = true
      rw [at_ j hj z hz]
      exact hzj
    · intro m hm hmj
      have hmd : m < ds.length := by omega
      have hz' : ds[m]? = some ds[m] := List.getElem?_eq_getElem hmd
      show PyData.eqv (SeqAt.readOf s.heap its.toArray[m]) d = false
      rw [at_ m hm _ hz']
      exact hno m _ hmj hz'
    · refine ⟨.non, _, I.lset (its' := its.eraseIdx j) (t' := s.toks) hH ho ?_ (vals_erase j rv) ?_, rfl, q⟩
      · show its.toArray.eraseIdxIfInBounds j = (its.eraseIdx j).toArray
        rw [List.eraseIdxIfInBounds_toArray]
      · have := List.length_eraseIdx_le vs j
        omega
def mRemove : List D → D → Option (List D) := fun xs y => if plainAt DEEP (.lst xs) && plainAt DEEP y then (match xs.findIdx? (fun z => eqAt DEEP z y) with | some j => some (xs.eraseIdx j) | none => none) else none
theorem dp_all {K : PySem.W.Frag} {F H : Hp} (l : Le F H) (n : Nat) : ∀ (ds : List D) (vs : List V), ds.all (plainAt n) = true → Reps C F vs ds → DpAll K H vs (pys ds)
  | [], _, _, .nil => by unfold pys; exact .nil
  | d :: ds, _, p, .cons r rs => by
    rw [List.all_cons, Bool.and_eq_true] at p
    unfold pys
    exact .cons (dp_of l n d _ p.1 r) (dp_all l n ds _ p.2 rs)
/-- x.remove(e) -/
theorem ss_remove (hu : X.A.units + 65 < cLine) (he : SE X C W e f) (hN : X.N[i]? = some x := by rfl) (hv : Vis X.env.scope x := by first | exact Or.inl rfl | exact Or.inr (Or.inl rfl) | exact Or.inr (Or.inr rfl)) (hd : (x == ("__debug__" : Str)) = false := by decide) (hcd : (x == ("__classdict__" : Str)) = false := by decide)
    (hbase : attributeBase (.Name x p) "remove" X.env (eval (.Name x p) X.env) = eval (.Name x p) X.env := by rfl)
    (hfew : ((backTo cpos (starEach [e] X.env)).all (fun x => !x.1) && (backToKw cpos (keywordEach [] X.env)).all (fun x => x.1.isSome) && decide ([e].length + ([] : List Keyword).length + (if ([] : List Keyword).isEmpty then 0 else 1) < 30)) = true := by rfl)
    (hline : (apos.endLine == cpos.line) = true := by rfl) (hs : starEach [e] X.env = (false, eval e X.env) :: starEach [] X.env := by rfl) (hplain : (backTo cpos (starEach [] X.env)).any (·.1) = false := by rfl)
    (hsw : swapsWith (.Call (.Attribute (.Name x p) "remove" apos) [e] [] cpos) none pos.line X.env = pure false := by rfl) : SS X C W (.Expr (.Call (.Attribute (.Name x p) "remove" apos) [e] [] cpos) pos) (sMutL i mRemove f) := by
  refine ps_imp (ps_expr (pe_bm PySem.F.plainAttrs_list PySem.F.slot_list_remove PySem.F.type_list_remove (mt_removeD hu) (pe_var hN hv hd hcd) (pa_cons he pa_nil hs) hbase hfew hline hs hplain) hsw) fun D1 σ H t => ?_
  refine mutL_of (fun F H a vs ds ds1 y b Q l ha hz rv ry e k => ?_) t
  unfold mRemove at e
  split at e
  · rename_i hp
    rw [Bool.and_eq_true] at hp
    split at e
    · rename_i j hj
      cases e
      have pd : ds.all (plainAt 23) = true := by simpa only [plainAt] using (show plainAt (23 + 1) (.lst ds) = true from hp.1)
      obtain ⟨hlt, hjt, hmin⟩ := List.findIdx?_eq_some_iff_getElem.mp hj
      have gz : ds[j]? = some ds[j] := List.getElem?_eq_getElem hlt
      have pj : plainAt DEEP ds[j] = true := plain_up 23 _ (all_get pd gz)
      refine ⟨a, y, vs, b.py, pys ds, j, (ds[j]).py, rfl, rfl, ha, dp_all l 23 ds vs pd rv, dp_of l DEEP b y hp.2 ry, ?_, shaped_of deep64 hp.2, by rw [pys_get, gz]; rfl, ?_, fun m z' hm hz' => ?_, k _ ?_ (reps_erase j rv)⟩
      · have := shaped_of deep64 hp.1
        simpa only [D.py] using this
      · rw [eqv_at _ _ _ pj hp.2]; exact hjt
      · rw [pys_get] at hz'
        have hml : m < ds.length := Nat.lt_trans hm hlt
        rw [List.getElem?_eq_getElem hml] at hz'
        cases hz'
        rw [eqv_at _ _ _ (plain_up 23 _ (all_get pd (List.getElem?_eq_getElem hml))) hp.2]
        have := hmin m hm
        show eqAt DEEP ds[m] b = false
        exact Bool.eq_false_iff.mpr this
      · have := List.length_eraseIdx_le vs j
        omega
    · cases e
  · cases e
end
end Sx

set_option Elab.async false
set_option linter.all false
set_option maxRecDepth 100000
set_option maxHeartbeats 0
namespace K51
open PySem PySem.Spec PyProof.Rows L2 Sx
def top (i : Nat) : Stmt := PySem.Challenge.pw_stepswithin_k51_whole_bounds_of_common_w.main.body.getD i (.Pass ⟨0, 0, 0, 0⟩)
def c_MOST_PART : Int := 1000000000000000000000000000000000000000000000000000000000000
def c_MOST_DEGREE : Int := 64
def c_MOST_WHOLE : Int := 256
abbrev PROG : Program := PySem.Challenge.pw_stepswithin_k51_whole_bounds_of_common_w
def d__law_begin : He.DefD := ⟨("_law_begin", none), "_law_begin", "_law_begin", defArgs (top 49), defBody (top 49), defScope (top 49), [], []⟩
def d__law_like : He.DefD := ⟨("_law_like", none), "_law_like", "_law_like", defArgs (top 56), defBody (top 56), defScope (top 56), [], []⟩
def d__law_power : He.DefD := ⟨("_law_power", none), "_law_power", "_law_power", defArgs (top 58), defBody (top 58), defScope (top 58), [], []⟩
def d__law_refusal : He.DefD := ⟨("_law_refusal", none), "_law_refusal", "_law_refusal", defArgs (top 57), defBody (top 57), defScope (top 57), [], []⟩
def d_reduced : He.DefD := ⟨("reduced", none), "reduced", "reduced", defArgs (top 17), defBody (top 17), defScope (top 17), [], []⟩
def d_as_poly : He.DefD := ⟨("as_poly", none), "as_poly", "as_poly", defArgs (top 18), defBody (top 18), defScope (top 18), [], []⟩
def d_is_from : He.DefD := ⟨("is_from", none), "is_from", "is_from", defArgs (top 12), defBody (top 12), defScope (top 12), [], []⟩
def d_is_number : He.DefD := ⟨("is_number", none), "is_number", "is_number", defArgs (top 13), defBody (top 13), defScope (top 13), [], []⟩
def d_is_step : He.DefD := ⟨("is_step", none), "is_step", "is_step", defArgs (top 14), defBody (top 14), defScope (top 14), [], []⟩
def d_need_step : He.DefD := ⟨("need_step", none), "need_step", "need_step", defArgs (top 15), defBody (top 15), defScope (top 15), [], []⟩
def d_check_degree : He.DefD := ⟨("check_degree", none), "check_degree", "check_degree", defArgs (top 28), defBody (top 28), defScope (top 28), [], []⟩
def d_common_degree : He.DefD := ⟨("common_degree", none), "common_degree", "common_degree", defArgs (top 36), defBody (top 36), defScope (top 36), [], []⟩
def d_times_so : He.DefD := ⟨("times_so", none), "times_so", "times_so", defArgs (top 20), defBody (top 20), defScope (top 20), [], []⟩
def d_times : He.DefD := ⟨("times", none), "times", "times", defArgs (top 22), defBody (top 22), defScope (top 22), [], []⟩
def d_powers_of : He.DefD := ⟨("powers_of", none), "powers_of", "powers_of", defArgs (top 35), defBody (top 35), defScope (top 35), [], []⟩
def d_all_powers : He.DefD := ⟨("all_powers", none), "all_powers", "all_powers", defArgs (top 37), defBody (top 37), defScope (top 37), [], []⟩
def d_cleared : He.DefD := ⟨("cleared", none), "cleared", "cleared", defArgs (top 39), defBody (top 39), defScope (top 39), [], []⟩
def d_whole_numbers : He.DefD := ⟨("whole_numbers", none), "whole_numbers", "whole_numbers", defArgs (top 38), defBody (top 38), defScope (top 38), [], []⟩
def d_eliminated : He.DefD := ⟨("eliminated", none), "eliminated", "eliminated", defArgs (top 40), defBody (top 40), defScope (top 40), [], []⟩
def d_from_numbers : He.DefD := ⟨("from_numbers", none), "from_numbers", "from_numbers", defArgs (top 30), defBody (top 30), defScope (top 30), [], []⟩
def d_plain_poly : He.DefD := ⟨("plain_poly", none), "plain_poly", "plain_poly", defArgs (top 25), defBody (top 25), defScope (top 25), [], []⟩
def d_put_in : He.DefD := ⟨("put_in", none), "put_in", "put_in", defArgs (top 24), defBody (top 24), defScope (top 24), [], []⟩
def d_whole_so : He.DefD := ⟨("whole_so", none), "whole_so", "whole_so", defArgs (top 41), defBody (top 41), defScope (top 41), [], []⟩
def d_are_joined : He.DefD := ⟨("are_joined", none), "are_joined", "are_joined", defArgs (top 46), defBody (top 46), defScope (top 46), [], []⟩
def d_bar_places : He.DefD := ⟨("bar_places", none), "bar_places", "bar_places", defArgs (top 43), defBody (top 43), defScope (top 43), [], []⟩
def d_number_of : He.DefD := ⟨("number_of", none), "number_of", "number_of", defArgs (top 16), defBody (top 16), defScope (top 16), [], []⟩
def d_as_step : He.DefD := ⟨("as_step", none), "as_step", "as_step", defArgs (top 19), defBody (top 19), defScope (top 19), [], []⟩
def d_constants : He.DefD := ⟨("constants", none), "constants", "constants", defArgs (top 32), defBody (top 32), defScope (top 32), [], []⟩
def d_plus : He.DefD := ⟨("plus", none), "plus", "plus", defArgs (top 21), defBody (top 21), defScope (top 21), [], []⟩
def d_divided : He.DefD := ⟨("divided", none), "divided", "divided", defArgs (top 23), defBody (top 23), defScope (top 23), [], []⟩
def d_remainders : He.DefD := ⟨("remainders", none), "remainders", "remainders", defArgs (top 31), defBody (top 31), defScope (top 31), [], []⟩
def d_last_so : He.DefD := ⟨("last_so", none), "last_so", "last_so", defArgs (top 33), defBody (top 33), defScope (top 33), [], []⟩
def d_common_whole : He.DefD := ⟨("common_whole", none), "common_whole", "common_whole", defArgs (top 42), defBody (top 42), defScope (top 42), [], []⟩
def d_is_rows_free : He.DefD := ⟨("is_rows_free", none), "is_rows_free", "is_rows_free", defArgs (top 44), defBody (top 44), defScope (top 44), [], []⟩
def d_is_bar : He.DefD := ⟨("is_bar", none), "is_bar", "is_bar", defArgs (top 45), defBody (top 45), defScope (top 45), [], []⟩
def d__law_named : He.DefD := ⟨("_law_named", none), "_law_named", "_law_named", defArgs (top 60), defBody (top 60), defScope (top 60), [], []⟩
def d__law_divisor : He.DefD := ⟨("_law_divisor", none), "_law_divisor", "_law_divisor", defArgs (top 54), defBody (top 54), defScope (top 54), [], []⟩
def d__law_mixed : He.DefD := ⟨("_law_mixed", none), "_law_mixed", "_law_mixed", defArgs (top 48), defBody (top 48), defScope (top 48), [], []⟩
def d__law_draw : He.DefD := ⟨("_law_draw", none), "_law_draw", "_law_draw", defArgs (top 50), defBody (top 50), defScope (top 50), [], []⟩
def d__law_powers : He.DefD := ⟨("_law_powers", none), "_law_powers", "_law_powers", defArgs (top 59), defBody (top 59), defScope (top 59), [], []⟩
def d__law_of : He.DefD := ⟨("_law_of", none), "_law_of", "_law_of", defArgs (top 51), defBody (top 51), defScope (top 51), [], []⟩
def d__law_frac : He.DefD := ⟨("_law_frac", none), "_law_frac", "_law_frac", defArgs (top 55), defBody (top 55), defScope (top 55), [], []⟩
def d__law_number : He.DefD := ⟨("_law_number", none), "_law_number", "_law_number", defArgs (top 52), defBody (top 52), defScope (top 52), [], []⟩
def d__law_step : He.DefD := ⟨("_law_step", none), "_law_step", "_law_step", defArgs (top 53), defBody (top 53), defScope (top 53), [], []⟩
def d__law_refused : He.DefD := ⟨("_law_refused", none), "_law_refused", "_law_refused", defArgs (top 62), defBody (top 62), defScope (top 62), [], []⟩
def d__law_too_great : He.DefD := ⟨("_law_too_great", none), "_law_too_great", "_law_too_great", defArgs (top 61), defBody (top 61), defScope (top 61), [], []⟩
def d_law : He.DefD := ⟨("law", none), "law", "law", defArgs (top 63), defBody (top 63), defScope (top 63), [], []⟩
def fn : List He.DefD := [d__law_begin, d__law_like, d__law_power, d__law_refusal, d_reduced, d_as_poly, d_is_from, d_is_number, d_is_step, d_need_step, d_check_degree, d_common_degree, d_times_so, d_times, d_powers_of, d_all_powers, d_cleared, d_whole_numbers, d_eliminated, d_from_numbers, d_plain_poly, d_put_in, d_whole_so, d_are_joined, d_bar_places, d_number_of, d_as_step, d_constants, d_plus, d_divided, d_remainders, d_last_so, d_common_whole, d_is_rows_free, d_is_bar, d__law_named, d__law_divisor, d__law_mixed, d__law_draw, d__law_powers, d__law_of, d__law_frac, d__law_number, d__law_step, d__law_refused, d__law_too_great, d_law]
def fa : List He.Fa := [.int "MOST_DEGREE" c_MOST_DEGREE, .int "MOST_PART" c_MOST_PART, .int "MOST_WHOLE" c_MOST_WHOLE, .free "bool", .free "enumerate", .free "int", .free "isinstance", .free "len", .free "list", .free "max", .free "range", .free "repr", .free "reversed", .free "tuple", .free "zip", .glo "_law_begin", .glo "_law_like", .glo "_law_power", .glo "_law_refusal", .glo "reduced", .glo "as_poly", .glo "is_from", .glo "is_number", .glo "is_step", .glo "need_step", .glo "check_degree", .glo "common_degree", .glo "times_so", .glo "times", .glo "powers_of", .glo "all_powers", .glo "cleared", .glo "whole_numbers", .glo "eliminated", .glo "from_numbers", .glo "plain_poly", .glo "put_in", .glo "whole_so", .glo "are_joined", .glo "bar_places", .glo "number_of", .glo "as_step", .glo "constants", .glo "plus", .glo "divided", .glo "remainders", .glo "last_so", .glo "common_whole", .glo "is_rows_free", .glo "is_bar", .glo "_law_named", .glo "_law_divisor", .glo "_law_mixed", .glo "_law_draw", .glo "_law_powers", .glo "_law_of", .glo "_law_frac", .glo "_law_number", .glo "_law_step", .glo "_law_refused", .glo "_law_too_great", .glo "law", .glo "StepError", .glo "BadNumber", .glo "BadStep", .glo "BadRow", .glo "BadParameter", .glo "NoRow", .glo "TooGreat", .noat "StepError" "most", .noat "StepError" "place", .noat "StepError" "value", .exm "StepError" "BadNumber" false, .exm "StepError" "BadParameter" false, .exm "StepError" "BadRow" false, .exm "StepError" "BadStep" false, .exm "StepError" "NoRow" false, .exm "StepError" "StepError" true, .exm "StepError" "TooGreat" false, .noat "BadNumber" "most", .noat "BadNumber" "place", .noat "BadNumber" "value", .exm "BadNumber" "BadNumber" true, .exm "BadNumber" "BadParameter" false, .exm "BadNumber" "BadRow" false, .exm "BadNumber" "BadStep" false, .exm "BadNumber" "NoRow" false, .exm "BadNumber" "StepError" true, .exm "BadNumber" "TooGreat" false, .noat "BadStep" "most", .noat "BadStep" "place", .noat "BadStep" "value", .exm "BadStep" "BadNumber" false, .exm "BadStep" "BadParameter" false, .exm "BadStep" "BadRow" false, .exm "BadStep" "BadStep" true, .exm "BadStep" "NoRow" false, .exm "BadStep" "StepError" true, .exm "BadStep" "TooGreat" false, .noat "BadRow" "most", .noat "BadRow" "place", .noat "BadRow" "value", .exm "BadRow" "BadNumber" false, .exm "BadRow" "BadParameter" false, .exm "BadRow" "BadRow" true, .exm "BadRow" "BadStep" false, .exm "BadRow" "NoRow" false, .exm "BadRow" "StepError" true, .exm "BadRow" "TooGreat" false, .noat "BadParameter" "most", .noat "BadParameter" "place", .noat "BadParameter" "value", .exm "BadParameter" "BadNumber" false, .exm "BadParameter" "BadParameter" true, .exm "BadParameter" "BadRow" false, .exm "BadParameter" "BadStep" false, .exm "BadParameter" "NoRow" false, .exm "BadParameter" "StepError" true, .exm "BadParameter" "TooGreat" false, .noat "NoRow" "most", .noat "NoRow" "place", .noat "NoRow" "value", .exm "NoRow" "BadNumber" false, .exm "NoRow" "BadParameter" false, .exm "NoRow" "BadRow" false, .exm "NoRow" "BadStep" false, .exm "NoRow" "NoRow" true, .exm "NoRow" "StepError" true, .exm "NoRow" "TooGreat" false, .noat "TooGreat" "most", .noat "TooGreat" "place", .noat "TooGreat" "value", .exm "TooGreat" "BadNumber" false, .exm "TooGreat" "BadParameter" false, .exm "TooGreat" "BadRow" false, .exm "TooGreat" "BadStep" false, .exm "TooGreat" "NoRow" false, .exm "TooGreat" "StepError" true, .exm "TooGreat" "TooGreat" true]
abbrev ini_BadStep : Stmt := match top 4 with | .ClassDef _ _ _ [st] _ _ _ _ _ _ _ => st | _ => .Pass ⟨0, 0, 0, 0⟩
def j_BadStep : SxE.IniD := ⟨"BadStep", "BadStep.__init__", defArgs ini_BadStep, defBody ini_BadStep, defScope ini_BadStep⟩
abbrev ini_NoRow : Stmt := match top 7 with | .ClassDef _ _ _ [st] _ _ _ _ _ _ _ => st | _ => .Pass ⟨0, 0, 0, 0⟩
def j_NoRow : SxE.IniD := ⟨"NoRow", "NoRow.__init__", defArgs ini_NoRow, defBody ini_NoRow, defScope ini_NoRow⟩
abbrev ini_TooGreat : Stmt := match top 8 with | .ClassDef _ _ _ [st] _ _ _ _ _ _ _ => st | _ => .Pass ⟨0, 0, 0, 0⟩
def j_TooGreat : SxE.IniD := ⟨"TooGreat", "TooGreat.__init__", defArgs ini_TooGreat, defBody ini_TooGreat, defScope ini_TooGreat⟩
def is : List SxE.IniD := [j_BadStep, j_NoRow, j_TooGreat]
def tf : List He.Defn := [("_law_named", none), ("_law_powers", none), ("_law_refused", none), ("_law_too_great", none)]
def ex (K : PySem.W.Frag) : Bool := xfB K (He.ga K "StepError") && xfB K (He.ga K "BadNumber") && xfB K (He.ga K "BadStep") && xfB K (He.ga K "BadRow") && xfB K (He.ga K "BadParameter") && xfB K (He.ga K "NoRow") && xfB K (He.ga K "TooGreat") && SxE.xtB PROG.main.file K (He.ga K "BadStep") (He.fAd K ("BadStep", some "__init__")) && SxE.xtB PROG.main.file K (He.ga K "NoRow") (He.fAd K ("NoRow", some "__init__")) && SxE.xtB PROG.main.file K (He.ga K "TooGreat") (He.fAd K ("TooGreat", some "__init__")) && decide (PySem.W.findIn K (.ref (He.ga K "BadStep")) "value" = some none) && decide (PySem.W.findIn K (.ref (He.ga K "TooGreat")) "most" = some none) && decide (PySem.W.nsIn K mainGlobals "gcd" = some (some (.builtin "math.gcd"))) && decide (([(He.cT K ("_law_named", none)).2, (He.cT K ("_law_powers", none)).2, (He.cT K ("_law_refused", none)).2, (He.cT K ("_law_too_great", none)).2] : List Addr).Nodup)
abbrev ROW : PySem.W.OpenRow := PySem.W.OpenLaw.row PySem.Challenge.rw_stepswithin_k51_whole_bounds_of_common_w
abbrev hk : PySem.W.Hook := hookY 4 fa fn tf is ex
def ob (s : PySem.W.SharedT) : AlY := obsY 4 fa fn tf is ex (HandSHeadRun.getT s)
theorem ob_eq (s : PySem.W.SharedT) : ob s = hk.obs s.abs := obsY_eq (HandSHeadRun.getT_eq s)
def loose0 : List PySem.Str := ["StepError", "BadNumber", "BadStep", "BadRow", "BadParameter", "NoRow", "TooGreat", "is_from", "is_number", "is_step", "need_step", "number_of", "reduced", "as_poly", "as_step", "times_so", "plus", "times", "divided", "put_in", "plain_poly", "check_degree", "from_numbers", "remainders", "constants", "last_so", "powers_of", "common_degree", "all_powers", "whole_numbers"]
def loose1 : List PySem.Str := ["cleared", "eliminated", "whole_so", "common_whole", "bar_places", "is_rows_free", "is_bar", "are_joined", "_law_mixed", "_law_begin", "_law_draw", "_law_of", "_law_number", "_law_step", "_law_divisor", "_law_frac", "_law_like", "_law_refusal", "_law_power", "_law_powers", "_law_named", "_law_too_great", "_law_refused", "MOST_PART", "MOST_DEGREE", "MOST_WHOLE", "gcd", "__name__"]
def loose : List PySem.Str := loose0 ++ loose1
theorem run (w : World) : HandSHeadRun.RunEqI ROW (PySem.W.view ROW.prog [0, 63]) hk ob 4000 loose w := by
  unfold HandSHeadRun.RunEqI
  kernel_rfl
end K51

set_option Elab.async false
set_option linter.all false
set_option maxRecDepth 100000
set_option maxHeartbeats 4000000
namespace K51
open PySem PySem.Spec PyProof.Rows L2 Sx
structure Facts (P : Program) (w : World) (K : PySem.W.Frag) (mg : Str → Option Value) (base : Heap) where
  MOST_DEGREE : ∃ t, mg "MOST_DEGREE" = some (.int c_MOST_DEGREE t)
  MOST_PART : ∃ t, mg "MOST_PART" = some (.int c_MOST_PART t)
  MOST_WHOLE : ∃ t, mg "MOST_WHOLE" = some (.int c_MOST_WHOLE t)
  bool : mg "bool" = none
  enumerate : mg "enumerate" = none
  gcd : mg "gcd" = some (.builtin "math.gcd")
  int : mg "int" = none
  isinstance : mg "isinstance" = none
  len : mg "len" = none
  list : mg "list" = none
  max : mg "max" = none
  range : mg "range" = none
  repr : mg "repr" = none
  reversed : mg "reversed" = none
  tuple : mg "tuple" = none
  zip : mg "zip" = none
  a__law_begin : Addr
  fd__law_begin : FuncData
  F__law_begin : FunD K "_law_begin" "_law_begin" (defArgs (top 49)) (defBody (top 49)) (defScope (top 49)) [] [] a__law_begin fd__law_begin
  g__law_begin : mg "_law_begin" = some (.ref a__law_begin)
  k__law_begin : PySem.W.keepIn K (.ref a__law_begin) = true
  a__law_like : Addr
  fd__law_like : FuncData
  F__law_like : FunD K "_law_like" "_law_like" (defArgs (top 56)) (defBody (top 56)) (defScope (top 56)) [] [] a__law_like fd__law_like
  g__law_like : mg "_law_like" = some (.ref a__law_like)
  k__law_like : PySem.W.keepIn K (.ref a__law_like) = true
  a__law_power : Addr
  fd__law_power : FuncData
  F__law_power : FunD K "_law_power" "_law_power" (defArgs (top 58)) (defBody (top 58)) (defScope (top 58)) [] [] a__law_power fd__law_power
  g__law_power : mg "_law_power" = some (.ref a__law_power)
  k__law_power : PySem.W.keepIn K (.ref a__law_power) = true
  a__law_refusal : Addr
  fd__law_refusal : FuncData
  F__law_refusal : FunD K "_law_refusal" "_law_refusal" (defArgs (top 57)) (defBody (top 57)) (defScope (top 57)) [] [] a__law_refusal fd__law_refusal
  g__law_refusal : mg "_law_refusal" = some (.ref a__law_refusal)
  k__law_refusal : PySem.W.keepIn K (.ref a__law_refusal) = true
  a_reduced : Addr
  fd_reduced : FuncData
  F_reduced : FunD K "reduced" "reduced" (defArgs (top 17)) (defBody (top 17)) (defScope (top 17)) [] [] a_reduced fd_reduced
  g_reduced : mg "reduced" = some (.ref a_reduced)
  k_reduced : PySem.W.keepIn K (.ref a_reduced) = true
  a_as_poly : Addr
  fd_as_poly : FuncData
  F_as_poly : FunD K "as_poly" "as_poly" (defArgs (top 18)) (defBody (top 18)) (defScope (top 18)) [] [] a_as_poly fd_as_poly
  g_as_poly : mg "as_poly" = some (.ref a_as_poly)
  k_as_poly : PySem.W.keepIn K (.ref a_as_poly) = true
  a_is_from : Addr
  fd_is_from : FuncData
  F_is_from : FunD K "is_from" "is_from" (defArgs (top 12)) (defBody (top 12)) (defScope (top 12)) [] [] a_is_from fd_is_from
  g_is_from : mg "is_from" = some (.ref a_is_from)
  k_is_from : PySem.W.keepIn K (.ref a_is_from) = true
  a_is_number : Addr
  fd_is_number : FuncData
  F_is_number : FunD K "is_number" "is_number" (defArgs (top 13)) (defBody (top 13)) (defScope (top 13)) [] [] a_is_number fd_is_number
  g_is_number : mg "is_number" = some (.ref a_is_number)
  k_is_number : PySem.W.keepIn K (.ref a_is_number) = true
  a_is_step : Addr
  fd_is_step : FuncData
  F_is_step : FunD K "is_step" "is_step" (defArgs (top 14)) (defBody (top 14)) (defScope (top 14)) [] [] a_is_step fd_is_step
  g_is_step : mg "is_step" = some (.ref a_is_step)
  k_is_step : PySem.W.keepIn K (.ref a_is_step) = true
  a_need_step : Addr
  fd_need_step : FuncData
  F_need_step : FunD K "need_step" "need_step" (defArgs (top 15)) (defBody (top 15)) (defScope (top 15)) [] [] a_need_step fd_need_step
  g_need_step : mg "need_step" = some (.ref a_need_step)
  k_need_step : PySem.W.keepIn K (.ref a_need_step) = true
  a_check_degree : Addr
  fd_check_degree : FuncData
  F_check_degree : FunD K "check_degree" "check_degree" (defArgs (top 28)) (defBody (top 28)) (defScope (top 28)) [] [] a_check_degree fd_check_degree
  g_check_degree : mg "check_degree" = some (.ref a_check_degree)
  k_check_degree : PySem.W.keepIn K (.ref a_check_degree) = true
  a_common_degree : Addr
  fd_common_degree : FuncData
  F_common_degree : FunD K "common_degree" "common_degree" (defArgs (top 36)) (defBody (top 36)) (defScope (top 36)) [] [] a_common_degree fd_common_degree
  g_common_degree : mg "common_degree" = some (.ref a_common_degree)
  k_common_degree : PySem.W.keepIn K (.ref a_common_degree) = true
  a_times_so : Addr
  fd_times_so : FuncData
  F_times_so : FunD K "times_so" "times_so" (defArgs (top 20)) (defBody (top 20)) (defScope (top 20)) [] [] a_times_so fd_times_so
  g_times_so : mg "times_so" = some (.ref a_times_so)
  k_times_so : PySem.W.keepIn K (.ref a_times_so) = true
  a_times : Addr
  fd_times : FuncData
  F_times : FunD K "times" "times" (defArgs (top 22)) (defBody (top 22)) (defScope (top 22)) [] [] a_times fd_times
  g_times : mg "times" = some (.ref a_times)
  k_times : PySem.W.keepIn K (.ref a_times) = true
  a_powers_of : Addr
  fd_powers_of : FuncData
  F_powers_of : FunD K "powers_of" "powers_of" (defArgs (top 35)) (defBody (top 35)) (defScope (top 35)) [] [] a_powers_of fd_powers_of
  g_powers_of : mg "powers_of" = some (.ref a_powers_of)
  k_powers_of : PySem.W.keepIn K (.ref a_powers_of) = true
  a_all_powers : Addr
  fd_all_powers : FuncData
  F_all_powers : FunD K "all_powers" "all_powers" (defArgs (top 37)) (defBody (top 37)) (defScope (top 37)) [] [] a_all_powers fd_all_powers
  g_all_powers : mg "all_powers" = some (.ref a_all_powers)
  k_all_powers : PySem.W.keepIn K (.ref a_all_powers) = true
  a_cleared : Addr
  fd_cleared : FuncData
  F_cleared : FunD K "cleared" "cleared" (defArgs (top 39)) (defBody (top 39)) (defScope (top 39)) [] [] a_cleared fd_cleared
  g_cleared : mg "cleared" = some (.ref a_cleared)
  k_cleared : PySem.W.keepIn K (.ref a_cleared) = true
  a_whole_numbers : Addr
  fd_whole_numbers : FuncData
  F_whole_numbers : FunD K "whole_numbers" "whole_numbers" (defArgs (top 38)) (defBody (top 38)) (defScope (top 38)) [] [] a_whole_numbers fd_whole_numbers
  g_whole_numbers : mg "whole_numbers" = some (.ref a_whole_numbers)
  k_whole_numbers : PySem.W.keepIn K (.ref a_whole_numbers) = true
  a_eliminated : Addr
  fd_eliminated : FuncData
  F_eliminated : FunD K "eliminated" "eliminated" (defArgs (top 40)) (defBody (top 40)) (defScope (top 40)) [] [] a_eliminated fd_eliminated
  g_eliminated : mg "eliminated" = some (.ref a_eliminated)
  k_eliminated : PySem.W.keepIn K (.ref a_eliminated) = true
  a_from_numbers : Addr
  fd_from_numbers : FuncData
  F_from_numbers : FunD K "from_numbers" "from_numbers" (defArgs (top 30)) (defBody (top 30)) (defScope (top 30)) [] [] a_from_numbers fd_from_numbers
  g_from_numbers : mg "from_numbers" = some (.ref a_from_numbers)
  k_from_numbers : PySem.W.keepIn K (.ref a_from_numbers) = true
  a_plain_poly : Addr
  fd_plain_poly : FuncData
  F_plain_poly : FunD K "plain_poly" "plain_poly" (defArgs (top 25)) (defBody (top 25)) (defScope (top 25)) [] [] a_plain_poly fd_plain_poly
  g_plain_poly : mg "plain_poly" = some (.ref a_plain_poly)
  k_plain_poly : PySem.W.keepIn K (.ref a_plain_poly) = true
  a_put_in : Addr
  fd_put_in : FuncData
  F_put_in : FunD K "put_in" "put_in" (defArgs (top 24)) (defBody (top 24)) (defScope (top 24)) [] [] a_put_in fd_put_in
  g_put_in : mg "put_in" = some (.ref a_put_in)
  k_put_in : PySem.W.keepIn K (.ref a_put_in) = true
  a_whole_so : Addr
  fd_whole_so : FuncData
  F_whole_so : FunD K "whole_so" "whole_so" (defArgs (top 41)) (defBody (top 41)) (defScope (top 41)) [] [] a_whole_so fd_whole_so
  g_whole_so : mg "whole_so" = some (.ref a_whole_so)
  k_whole_so : PySem.W.keepIn K (.ref a_whole_so) = true
  a_are_joined : Addr
  fd_are_joined : FuncData
  F_are_joined : FunD K "are_joined" "are_joined" (defArgs (top 46)) (defBody (top 46)) (defScope (top 46)) [] [] a_are_joined fd_are_joined
  g_are_joined : mg "are_joined" = some (.ref a_are_joined)
  k_are_joined : PySem.W.keepIn K (.ref a_are_joined) = true
  a_bar_places : Addr
  fd_bar_places : FuncData
  F_bar_places : FunD K "bar_places" "bar_places" (defArgs (top 43)) (defBody (top 43)) (defScope (top 43)) [] [] a_bar_places fd_bar_places
  g_bar_places : mg "bar_places" = some (.ref a_bar_places)
  k_bar_places : PySem.W.keepIn K (.ref a_bar_places) = true
  a_number_of : Addr
  fd_number_of : FuncData
  F_number_of : FunD K "number_of" "number_of" (defArgs (top 16)) (defBody (top 16)) (defScope (top 16)) [] [] a_number_of fd_number_of
  g_number_of : mg "number_of" = some (.ref a_number_of)
  k_number_of : PySem.W.keepIn K (.ref a_number_of) = true
  a_as_step : Addr
  fd_as_step : FuncData
  F_as_step : FunD K "as_step" "as_step" (defArgs (top 19)) (defBody (top 19)) (defScope (top 19)) [] [] a_as_step fd_as_step
  g_as_step : mg "as_step" = some (.ref a_as_step)
  k_as_step : PySem.W.keepIn K (.ref a_as_step) = true
  a_constants : Addr
  fd_constants : FuncData
  F_constants : FunD K "constants" "constants" (defArgs (top 32)) (defBody (top 32)) (defScope (top 32)) [] [] a_constants fd_constants
  g_constants : mg "constants" = some (.ref a_constants)
  k_constants : PySem.W.keepIn K (.ref a_constants) = true
  a_plus : Addr
  fd_plus : FuncData
  F_plus : FunD K "plus" "plus" (defArgs (top 21)) (defBody (top 21)) (defScope (top 21)) [] [] a_plus fd_plus
  g_plus : mg "plus" = some (.ref a_plus)
  k_plus : PySem.W.keepIn K (.ref a_plus) = true
  a_divided : Addr
  fd_divided : FuncData
  F_divided : FunD K "divided" "divided" (defArgs (top 23)) (defBody (top 23)) (defScope (top 23)) [] [] a_divided fd_divided
  g_divided : mg "divided" = some (.ref a_divided)
  k_divided : PySem.W.keepIn K (.ref a_divided) = true
  a_remainders : Addr
  fd_remainders : FuncData
  F_remainders : FunD K "remainders" "remainders" (defArgs (top 31)) (defBody (top 31)) (defScope (top 31)) [] [] a_remainders fd_remainders
  g_remainders : mg "remainders" = some (.ref a_remainders)
  k_remainders : PySem.W.keepIn K (.ref a_remainders) = true
  a_last_so : Addr
  fd_last_so : FuncData
  F_last_so : FunD K "last_so" "last_so" (defArgs (top 33)) (defBody (top 33)) (defScope (top 33)) [] [] a_last_so fd_last_so
  g_last_so : mg "last_so" = some (.ref a_last_so)
  k_last_so : PySem.W.keepIn K (.ref a_last_so) = true
  a_common_whole : Addr
  fd_common_whole : FuncData
  F_common_whole : FunD K "common_whole" "common_whole" (defArgs (top 42)) (defBody (top 42)) (defScope (top 42)) [] [] a_common_whole fd_common_whole
  g_common_whole : mg "common_whole" = some (.ref a_common_whole)
  k_common_whole : PySem.W.keepIn K (.ref a_common_whole) = true
  a_is_rows_free : Addr
  fd_is_rows_free : FuncData
  F_is_rows_free : FunD K "is_rows_free" "is_rows_free" (defArgs (top 44)) (defBody (top 44)) (defScope (top 44)) [] [] a_is_rows_free fd_is_rows_free
  g_is_rows_free : mg "is_rows_free" = some (.ref a_is_rows_free)
  k_is_rows_free : PySem.W.keepIn K (.ref a_is_rows_free) = true
  a_is_bar : Addr
  fd_is_bar : FuncData
  F_is_bar : FunD K "is_bar" "is_bar" (defArgs (top 45)) (defBody (top 45)) (defScope (top 45)) [] [] a_is_bar fd_is_bar
  g_is_bar : mg "is_bar" = some (.ref a_is_bar)
  k_is_bar : PySem.W.keepIn K (.ref a_is_bar) = true
  a__law_named : Addr
  fd__law_named : FuncData
  F__law_named : FunD K "_law_named" "_law_named" (defArgs (top 60)) (defBody (top 60)) (defScope (top 60)) [] [] a__law_named fd__law_named
  g__law_named : mg "_law_named" = some (.ref a__law_named)
  k__law_named : PySem.W.keepIn K (.ref a__law_named) = true
  l__law_named : Addr
  tb__law_named : LamX.TabB base mg (codeAt K a__law_named) l__law_named
  a__law_divisor : Addr
  fd__law_divisor : FuncData
  F__law_divisor : FunD K "_law_divisor" "_law_divisor" (defArgs (top 54)) (defBody (top 54)) (defScope (top 54)) [] [] a__law_divisor fd__law_divisor
  g__law_divisor : mg "_law_divisor" = some (.ref a__law_divisor)
  k__law_divisor : PySem.W.keepIn K (.ref a__law_divisor) = true
  a__law_mixed : Addr
  fd__law_mixed : FuncData
  F__law_mixed : FunD K "_law_mixed" "_law_mixed" (defArgs (top 48)) (defBody (top 48)) (defScope (top 48)) [] [] a__law_mixed fd__law_mixed
  g__law_mixed : mg "_law_mixed" = some (.ref a__law_mixed)
  k__law_mixed : PySem.W.keepIn K (.ref a__law_mixed) = true
  a__law_draw : Addr
  fd__law_draw : FuncData
  F__law_draw : FunD K "_law_draw" "_law_draw" (defArgs (top 50)) (defBody (top 50)) (defScope (top 50)) [] [] a__law_draw fd__law_draw
  g__law_draw : mg "_law_draw" = some (.ref a__law_draw)
  k__law_draw : PySem.W.keepIn K (.ref a__law_draw) = true
  a__law_powers : Addr
  fd__law_powers : FuncData
  F__law_powers : FunD K "_law_powers" "_law_powers" (defArgs (top 59)) (defBody (top 59)) (defScope (top 59)) [] [] a__law_powers fd__law_powers
  g__law_powers : mg "_law_powers" = some (.ref a__law_powers)
  k__law_powers : PySem.W.keepIn K (.ref a__law_powers) = true
  l__law_powers : Addr
  tb__law_powers : LamX.TabB base mg (codeAt K a__law_powers) l__law_powers
  a__law_of : Addr
  fd__law_of : FuncData
  F__law_of : FunD K "_law_of" "_law_of" (defArgs (top 51)) (defBody (top 51)) (defScope (top 51)) [] [] a__law_of fd__law_of
  g__law_of : mg "_law_of" = some (.ref a__law_of)
  k__law_of : PySem.W.keepIn K (.ref a__law_of) = true
  a__law_frac : Addr
  fd__law_frac : FuncData
  F__law_frac : FunD K "_law_frac" "_law_frac" (defArgs (top 55)) (defBody (top 55)) (defScope (top 55)) [] [] a__law_frac fd__law_frac
  g__law_frac : mg "_law_frac" = some (.ref a__law_frac)
  k__law_frac : PySem.W.keepIn K (.ref a__law_frac) = true
  a__law_number : Addr
  fd__law_number : FuncData
  F__law_number : FunD K "_law_number" "_law_number" (defArgs (top 52)) (defBody (top 52)) (defScope (top 52)) [] [] a__law_number fd__law_number
  g__law_number : mg "_law_number" = some (.ref a__law_number)
  k__law_number : PySem.W.keepIn K (.ref a__law_number) = true
  a__law_step : Addr
  fd__law_step : FuncData
  F__law_step : FunD K "_law_step" "_law_step" (defArgs (top 53)) (defBody (top 53)) (defScope (top 53)) [] [] a__law_step fd__law_step
  g__law_step : mg "_law_step" = some (.ref a__law_step)
  k__law_step : PySem.W.keepIn K (.ref a__law_step) = true
  a__law_refused : Addr
  fd__law_refused : FuncData
  F__law_refused : FunD K "_law_refused" "_law_refused" (defArgs (top 62)) (defBody (top 62)) (defScope (top 62)) [] [] a__law_refused fd__law_refused
  g__law_refused : mg "_law_refused" = some (.ref a__law_refused)
  k__law_refused : PySem.W.keepIn K (.ref a__law_refused) = true
  l__law_refused : Addr
  tb__law_refused : LamX.TabB base mg (codeAt K a__law_refused) l__law_refused
  a__law_too_great : Addr
  fd__law_too_great : FuncData
  F__law_too_great : FunD K "_law_too_great" "_law_too_great" (defArgs (top 61)) (defBody (top 61)) (defScope (top 61)) [] [] a__law_too_great fd__law_too_great
  g__law_too_great : mg "_law_too_great" = some (.ref a__law_too_great)
  k__law_too_great : PySem.W.keepIn K (.ref a__law_too_great) = true
  l__law_too_great : Addr
  tb__law_too_great : LamX.TabB base mg (codeAt K a__law_too_great) l__law_too_great
  a_law : Addr
  fd_law : FuncData
  F_law : FunD K "law" "law" (defArgs (top 63)) (defBody (top 63)) (defScope (top 63)) [] [] a_law fd_law
  g_law : mg "law" = some (.ref a_law)
  k_law : PySem.W.keepIn K (.ref a_law) = true
  tabsN : ([l__law_named, l__law_powers, l__law_refused, l__law_too_great] : List Addr).Nodup
  a_StepError : Addr
  g_StepError : mg "StepError" = some (.ref a_StepError)
  a_BadNumber : Addr
  g_BadNumber : mg "BadNumber" = some (.ref a_BadNumber)
  a_BadStep : Addr
  g_BadStep : mg "BadStep" = some (.ref a_BadStep)
  a_BadRow : Addr
  g_BadRow : mg "BadRow" = some (.ref a_BadRow)
  a_BadParameter : Addr
  g_BadParameter : mg "BadParameter" = some (.ref a_BadParameter)
  a_NoRow : Addr
  g_NoRow : mg "NoRow" = some (.ref a_NoRow)
  a_TooGreat : Addr
  g_TooGreat : mg "TooGreat" = some (.ref a_TooGreat)
  i_BadStep : Addr
  x_BadStep : SxE.X1 P K a_BadStep i_BadStep "value"
  i_NoRow : Addr
  x_NoRow : SxE.X0 P K a_NoRow i_NoRow
  i_TooGreat : Addr
  x_TooGreat : SxE.X1 P K a_TooGreat i_TooGreat "most"
  xf_StepError : XfC K a_StepError
  no_StepError_most : PySem.W.findIn K (.ref a_StepError) "most" = some none
  no_StepError_place : PySem.W.findIn K (.ref a_StepError) "place" = some none
  no_StepError_value : PySem.W.findIn K (.ref a_StepError) "value" = some none
  m_StepError_BadNumber : PySem.W.exmOne K (.ref a_StepError) (.ref a_BadNumber) = some false
  m_StepError_BadParameter : PySem.W.exmOne K (.ref a_StepError) (.ref a_BadParameter) = some false
  m_StepError_BadRow : PySem.W.exmOne K (.ref a_StepError) (.ref a_BadRow) = some false
  m_StepError_BadStep : PySem.W.exmOne K (.ref a_StepError) (.ref a_BadStep) = some false
  m_StepError_NoRow : PySem.W.exmOne K (.ref a_StepError) (.ref a_NoRow) = some false
  m_StepError_StepError : PySem.W.exmOne K (.ref a_StepError) (.ref a_StepError) = some true
  m_StepError_TooGreat : PySem.W.exmOne K (.ref a_StepError) (.ref a_TooGreat) = some false
  xf_BadNumber : XfC K a_BadNumber
  no_BadNumber_most : PySem.W.findIn K (.ref a_BadNumber) "most" = some none
  no_BadNumber_place : PySem.W.findIn K (.ref a_BadNumber) "place" = some none
  no_BadNumber_value : PySem.W.findIn K (.ref a_BadNumber) "value" = some none
  m_BadNumber_BadNumber : PySem.W.exmOne K (.ref a_BadNumber) (.ref a_BadNumber) = some true
  m_BadNumber_BadParameter : PySem.W.exmOne K (.ref a_BadNumber) (.ref a_BadParameter) = some false
  m_BadNumber_BadRow : PySem.W.exmOne K (.ref a_BadNumber) (.ref a_BadRow) = some false
  m_BadNumber_BadStep : PySem.W.exmOne K (.ref a_BadNumber) (.ref a_BadStep) = some false
  m_BadNumber_NoRow : PySem.W.exmOne K (.ref a_BadNumber) (.ref a_NoRow) = some false
  m_BadNumber_StepError : PySem.W.exmOne K (.ref a_BadNumber) (.ref a_StepError) = some true
  m_BadNumber_TooGreat : PySem.W.exmOne K (.ref a_BadNumber) (.ref a_TooGreat) = some false
  xf_BadStep : XfC K a_BadStep
  no_BadStep_most : PySem.W.findIn K (.ref a_BadStep) "most" = some none
  no_BadStep_place : PySem.W.findIn K (.ref a_BadStep) "place" = some none
  no_BadStep_value : PySem.W.findIn K (.ref a_BadStep) "value" = some none
  m_BadStep_BadNumber : PySem.W.exmOne K (.ref a_BadStep) (.ref a_BadNumber) = some false
  m_BadStep_BadParameter : PySem.W.exmOne K (.ref a_BadStep) (.ref a_BadParameter) = some false
  m_BadStep_BadRow : PySem.W.exmOne K (.ref a_BadStep) (.ref a_BadRow) = some false
  m_BadStep_BadStep : PySem.W.exmOne K (.ref a_BadStep) (.ref a_BadStep) = some true
  m_BadStep_NoRow : PySem.W.exmOne K (.ref a_BadStep) (.ref a_NoRow) = some false
  m_BadStep_StepError : PySem.W.exmOne K (.ref a_BadStep) (.ref a_StepError) = some true
  m_BadStep_TooGreat : PySem.W.exmOne K (.ref a_BadStep) (.ref a_TooGreat) = some false
  xf_BadRow : XfC K a_BadRow
  no_BadRow_most : PySem.W.findIn K (.ref a_BadRow) "most" = some none
  no_BadRow_place : PySem.W.findIn K (.ref a_BadRow) "place" = some none
  no_BadRow_value : PySem.W.findIn K (.ref a_BadRow) "value" = some none
  m_BadRow_BadNumber : PySem.W.exmOne K (.ref a_BadRow) (.ref a_BadNumber) = some false
  m_BadRow_BadParameter : PySem.W.exmOne K (.ref a_BadRow) (.ref a_BadParameter) = some false
  m_BadRow_BadRow : PySem.W.exmOne K (.ref a_BadRow) (.ref a_BadRow) = some true
  m_BadRow_BadStep : PySem.W.exmOne K (.ref a_BadRow) (.ref a_BadStep) = some false
  m_BadRow_NoRow : PySem.W.exmOne K (.ref a_BadRow) (.ref a_NoRow) = some false
  m_BadRow_StepError : PySem.W.exmOne K (.ref a_BadRow) (.ref a_StepError) = some true
  m_BadRow_TooGreat : PySem.W.exmOne K (.ref a_BadRow) (.ref a_TooGreat) = some false
  xf_BadParameter : XfC K a_BadParameter
  no_BadParameter_most : PySem.W.findIn K (.ref a_BadParameter) "most" = some none
  no_BadParameter_place : PySem.W.findIn K (.ref a_BadParameter) "place" = some none
  no_BadParameter_value : PySem.W.findIn K (.ref a_BadParameter) "value" = some none
  m_BadParameter_BadNumber : PySem.W.exmOne K (.ref a_BadParameter) (.ref a_BadNumber) = some false
  m_BadParameter_BadParameter : PySem.W.exmOne K (.ref a_BadParameter) (.ref a_BadParameter) = some true
  m_BadParameter_BadRow : PySem.W.exmOne K (.ref a_BadParameter) (.ref a_BadRow) = some false
  m_BadParameter_BadStep : PySem.W.exmOne K (.ref a_BadParameter) (.ref a_BadStep) = some false
  m_BadParameter_NoRow : PySem.W.exmOne K (.ref a_BadParameter) (.ref a_NoRow) = some false
  m_BadParameter_StepError : PySem.W.exmOne K (.ref a_BadParameter) (.ref a_StepError) = some true
  m_BadParameter_TooGreat : PySem.W.exmOne K (.ref a_BadParameter) (.ref a_TooGreat) = some false
  xf_NoRow : XfC K a_NoRow
  no_NoRow_most : PySem.W.findIn K (.ref a_NoRow) "most" = some none
  no_NoRow_place : PySem.W.findIn K (.ref a_NoRow) "place" = some none
  no_NoRow_value : PySem.W.findIn K (.ref a_NoRow) "value" = some none
  m_NoRow_BadNumber : PySem.W.exmOne K (.ref a_NoRow) (.ref a_BadNumber) = some false
  m_NoRow_BadParameter : PySem.W.exmOne K (.ref a_NoRow) (.ref a_BadParameter) = some false
  m_NoRow_BadRow : PySem.W.exmOne K (.ref a_NoRow) (.ref a_BadRow) = some false
  m_NoRow_BadStep : PySem.W.exmOne K (.ref a_NoRow) (.ref a_BadStep) = some false
  m_NoRow_NoRow : PySem.W.exmOne K (.ref a_NoRow) (.ref a_NoRow) = some true
  m_NoRow_StepError : PySem.W.exmOne K (.ref a_NoRow) (.ref a_StepError) = some true
  m_NoRow_TooGreat : PySem.W.exmOne K (.ref a_NoRow) (.ref a_TooGreat) = some false
  xf_TooGreat : XfC K a_TooGreat
  no_TooGreat_most : PySem.W.findIn K (.ref a_TooGreat) "most" = some none
  no_TooGreat_place : PySem.W.findIn K (.ref a_TooGreat) "place" = some none
  no_TooGreat_value : PySem.W.findIn K (.ref a_TooGreat) "value" = some none
  m_TooGreat_BadNumber : PySem.W.exmOne K (.ref a_TooGreat) (.ref a_BadNumber) = some false
  m_TooGreat_BadParameter : PySem.W.exmOne K (.ref a_TooGreat) (.ref a_BadParameter) = some false
  m_TooGreat_BadRow : PySem.W.exmOne K (.ref a_TooGreat) (.ref a_BadRow) = some false
  m_TooGreat_BadStep : PySem.W.exmOne K (.ref a_TooGreat) (.ref a_BadStep) = some false
  m_TooGreat_NoRow : PySem.W.exmOne K (.ref a_TooGreat) (.ref a_NoRow) = some false
  m_TooGreat_StepError : PySem.W.exmOne K (.ref a_TooGreat) (.ref a_StepError) = some true
  m_TooGreat_TooGreat : PySem.W.exmOne K (.ref a_TooGreat) (.ref a_TooGreat) = some true
def clsT {P : Program} {w : World} {K : PySem.W.Frag} {mg : Str → Option Value} {base : Heap} (T : Facts P w K mg base) : Nat → Option Addr
  | 0 => some T.a_StepError
  | 1 => some T.a_BadNumber
  | 2 => some T.a_BadStep
  | 3 => some T.a_BadRow
  | 4 => some T.a_BadParameter
  | 5 => some T.a_NoRow
  | 6 => some T.a_TooGreat
  | _ => none
def fnsT {P : Program} {w : World} {K : PySem.W.Frag} {mg : Str → Option Value} {base : Heap} (T : Facts P w K mg base) : Nat → Option Addr
  | 1 => some T.a_common_whole
  | 2 => some T.a_are_joined
  | 3 => some T.a_bar_places
  | _ => none
def tabsT {P : Program} {w : World} {K : PySem.W.Frag} {mg : Str → Option Value} {base : Heap} (T : Facts P w K mg base) : List (Addr × Str) := [(T.l__law_named, ((("_law_named" : Str) ++ ".<locals>.") ++ "<lambda>" : Str)), (T.l__law_powers, ((("_law_powers" : Str) ++ ".<locals>.") ++ "<lambda>" : Str)), (T.l__law_refused, ((("_law_refused" : Str) ++ ".<locals>.") ++ "<lambda>" : Str)), (T.l__law_too_great, ((("_law_too_great" : Str) ++ ".<locals>.") ++ "<lambda>" : Str))]
structure OkC {P : Program} {w : World} {K : PySem.W.Frag} {mg : Str → Option Value} {base : Heap} (T : Facts P w K mg base) (C : Cs) : Prop where
  ent : C.ent = none
  fns : C.fns = fnsT T
  exa : C.exa = none
  cls : C.cls = clsT T
  tab : C.T = tabsT T
theorem OkC.uniq {P : Program} {w : World} {K : PySem.W.Frag} {mg : Str → Option Value} {base : Heap} {T : Facts P w K mg base} {C : Cs} (hC : OkC T C) {p : Addr} {q : Str} (h : (p, q) ∈ C.T) : ∀ r ∈ C.T, r.1 = p → r.2 = q := tab_one (by rw [hC.tab]; exact T.tabsN) h
theorem xf_all0 {P : Program} {w : World} {K : PySem.W.Frag} {mg : Str → Option Value} {base : Heap} (T : Facts P w K mg base) : ∀ (j : Nat) (Ca : Addr), clsT T j = some Ca → XfC K Ca
  | 0, Ca, h => by
    obtain rfl : T.a_StepError = Ca := Option.some.inj h
    exact T.xf_StepError
  | 1, Ca, h => by
    obtain rfl : T.a_BadNumber = Ca := Option.some.inj h
    exact T.xf_BadNumber
  | 2, Ca, h => by
    obtain rfl : T.a_BadStep = Ca := Option.some.inj h
    exact T.xf_BadStep
  | 3, Ca, h => by
    obtain rfl : T.a_BadRow = Ca := Option.some.inj h
    exact T.xf_BadRow
  | 4, Ca, h => by
    obtain rfl : T.a_BadParameter = Ca := Option.some.inj h
    exact T.xf_BadParameter
  | 5, Ca, h => by
    obtain rfl : T.a_NoRow = Ca := Option.some.inj h
    exact T.xf_NoRow
  | 6, Ca, h => by
    obtain rfl : T.a_TooGreat = Ca := Option.some.inj h
    exact T.xf_TooGreat
  | n + 7, Ca, h => by cases (show (none : Option Addr) = some Ca from h)
theorem xf_all {P : Program} {w : World} {K : PySem.W.Frag} {mg : Str → Option Value} {base : Heap} (T : Facts P w K mg base) {C : Cs} (hc : C.cls = clsT T) : ∀ (j : Nat) (Ca : Addr), C.cls j = some Ca → XfC K Ca := by
  rw [hc]
  exact xf_all0 T
theorem no_most0 {P : Program} {w : World} {K : PySem.W.Frag} {mg : Str → Option Value} {base : Heap} (T : Facts P w K mg base) : ∀ (j : Nat) (Ca : Addr), clsT T j = some Ca → PySem.W.findIn K (.ref Ca) "most" = some none
  | 0, Ca, h => by
    obtain rfl : T.a_StepError = Ca := Option.some.inj h
    exact T.no_StepError_most
  | 1, Ca, h => by
    obtain rfl : T.a_BadNumber = Ca := Option.some.inj h
    exact T.no_BadNumber_most
  | 2, Ca, h => by
    obtain rfl : T.a_BadStep = Ca := Option.some.inj h
    exact T.no_BadStep_most
  | 3, Ca, h => by
    obtain rfl : T.a_BadRow = Ca := Option.some.inj h
    exact T.no_BadRow_most
  | 4, Ca, h => by
    obtain rfl : T.a_BadParameter = Ca := Option.some.inj h
    exact T.no_BadParameter_most
  | 5, Ca, h => by
    obtain rfl : T.a_NoRow = Ca := Option.some.inj h
    exact T.no_NoRow_most
  | 6, Ca, h => by
    obtain rfl : T.a_TooGreat = Ca := Option.some.inj h
    exact T.no_TooGreat_most
  | n + 7, Ca, h => by cases (show (none : Option Addr) = some Ca from h)
theorem no_most {P : Program} {w : World} {K : PySem.W.Frag} {mg : Str → Option Value} {base : Heap} (T : Facts P w K mg base) {C : Cs} (hc : C.cls = clsT T) : ∀ (j : Nat) (Ca : Addr), C.cls j = some Ca → PySem.W.findIn K (.ref Ca) "most" = some none := by
  rw [hc]
  exact no_most0 T
theorem no_place0 {P : Program} {w : World} {K : PySem.W.Frag} {mg : Str → Option Value} {base : Heap} (T : Facts P w K mg base) : ∀ (j : Nat) (Ca : Addr), clsT T j = some Ca → PySem.W.findIn K (.ref Ca) "place" = some none
  | 0, Ca, h => by
    obtain rfl : T.a_StepError = Ca := Option.some.inj h
    exact T.no_StepError_place
  | 1, Ca, h => by
    obtain rfl : T.a_BadNumber = Ca := Option.some.inj h
    exact T.no_BadNumber_place
  | 2, Ca, h => by
    obtain rfl : T.a_BadStep = Ca := Option.some.inj h
    exact T.no_BadStep_place
  | 3, Ca, h => by
    obtain rfl : T.a_BadRow = Ca := Option.some.inj h
    exact T.no_BadRow_place
  | 4, Ca, h => by
    obtain rfl : T.a_BadParameter = Ca := Option.some.inj h
    exact T.no_BadParameter_place
  | 5, Ca, h => by
    obtain rfl : T.a_NoRow = Ca := Option.some.inj h
    exact T.no_NoRow_place
  | 6, Ca, h => by
    obtain rfl : T.a_TooGreat = Ca := Option.some.inj h
    exact T.no_TooGreat_place
  | n + 7, Ca, h => by cases (show (none : Option Addr) = some Ca from h)
theorem no_place {P : Program} {w : World} {K : PySem.W.Frag} {mg : Str → Option Value} {base : Heap} (T : Facts P w K mg base) {C : Cs} (hc : C.cls = clsT T) : ∀ (j : Nat) (Ca : Addr), C.cls j = some Ca → PySem.W.findIn K (.ref Ca) "place" = some none := by
  rw [hc]
  exact no_place0 T
theorem no_value0 {P : Program} {w : World} {K : PySem.W.Frag} {mg : Str → Option Value} {base : Heap} (T : Facts P w K mg base) : ∀ (j : Nat) (Ca : Addr), clsT T j = some Ca → PySem.W.findIn K (.ref Ca) "value" = some none
  | 0, Ca, h => by
    obtain rfl : T.a_StepError = Ca := Option.some.inj h
    exact T.no_StepError_value
  | 1, Ca, h => by
    obtain rfl : T.a_BadNumber = Ca := Option.some.inj h
    exact T.no_BadNumber_value
  | 2, Ca, h => by
    obtain rfl : T.a_BadStep = Ca := Option.some.inj h
    exact T.no_BadStep_value
  | 3, Ca, h => by
    obtain rfl : T.a_BadRow = Ca := Option.some.inj h
    exact T.no_BadRow_value
  | 4, Ca, h => by
    obtain rfl : T.a_BadParameter = Ca := Option.some.inj h
    exact T.no_BadParameter_value
  | 5, Ca, h => by
    obtain rfl : T.a_NoRow = Ca := Option.some.inj h
    exact T.no_NoRow_value
  | 6, Ca, h => by
    obtain rfl : T.a_TooGreat = Ca := Option.some.inj h
    exact T.no_TooGreat_value
  | n + 7, Ca, h => by cases (show (none : Option Addr) = some Ca from h)
theorem no_value {P : Program} {w : World} {K : PySem.W.Frag} {mg : Str → Option Value} {base : Heap} (T : Facts P w K mg base) {C : Cs} (hc : C.cls = clsT T) : ∀ (j : Nat) (Ca : Addr), C.cls j = some Ca → PySem.W.findIn K (.ref Ca) "value" = some none := by
  rw [hc]
  exact no_value0 T
theorem m_BadNumber0 {P : Program} {w : World} {K : PySem.W.Frag} {mg : Str → Option Value} {base : Heap} (T : Facts P w K mg base) : ∀ (j : Nat) (Ca : Addr), clsT T j = some Ca → PySem.W.exmOne K (.ref Ca) (.ref T.a_BadNumber) = some (([1] : List Nat).contains j)
  | 0, Ca, h => by
    obtain rfl : T.a_StepError = Ca := Option.some.inj h
    exact T.m_StepError_BadNumber.trans (congrArg some (by decide))
  | 1, Ca, h => by
    obtain rfl : T.a_BadNumber = Ca := Option.some.inj h
    exact T.m_BadNumber_BadNumber.trans (congrArg some (by decide))
  | 2, Ca, h => by
    obtain rfl : T.a_BadStep = Ca := Option.some.inj h
    exact T.m_BadStep_BadNumber.trans (congrArg some (by decide))
  | 3, Ca, h => by
    obtain rfl : T.a_BadRow = Ca := Option.some.inj h
    exact T.m_BadRow_BadNumber.trans (congrArg some (by decide))
  | 4, Ca, h => by
    obtain rfl : T.a_BadParameter = Ca := Option.some.inj h
    exact T.m_BadParameter_BadNumber.trans (congrArg some (by decide))
  | 5, Ca, h => by
    obtain rfl : T.a_NoRow = Ca := Option.some.inj h
    exact T.m_NoRow_BadNumber.trans (congrArg some (by decide))
  | 6, Ca, h => by
    obtain rfl : T.a_TooGreat = Ca := Option.some.inj h
    exact T.m_TooGreat_BadNumber.trans (congrArg some (by decide))
  | n + 7, Ca, h => by cases (show (none : Option Addr) = some Ca from h)
theorem m_BadNumber {P : Program} {w : World} {K : PySem.W.Frag} {mg : Str → Option Value} {base : Heap} (T : Facts P w K mg base) {C : Cs} (hc : C.cls = clsT T) : ∀ (j : Nat) (Ca : Addr), C.cls j = some Ca → PySem.W.exmOne K (.ref Ca) (.ref T.a_BadNumber) = some (([1] : List Nat).contains j) := by
  rw [hc]
  exact m_BadNumber0 T
theorem m_BadParameter0 {P : Program} {w : World} {K : PySem.W.Frag} {mg : Str → Option Value} {base : Heap} (T : Facts P w K mg base) : ∀ (j : Nat) (Ca : Addr), clsT T j = some Ca → PySem.W.exmOne K (.ref Ca) (.ref T.a_BadParameter) = some (([4] : List Nat).contains j)
  | 0, Ca, h => by
    obtain rfl : T.a_StepError = Ca := Option.some.inj h
    exact T.m_StepError_BadParameter.trans (congrArg some (by decide))
  | 1, Ca, h => by
    obtain rfl : T.a_BadNumber = Ca := Option.some.inj h
    exact T.m_BadNumber_BadParameter.trans (congrArg some (by decide))
  | 2, Ca, h => by
    obtain rfl : T.a_BadStep = Ca := Option.some.inj h
    exact T.m_BadStep_BadParameter.trans (congrArg some (by decide))
  | 3, Ca, h => by
    obtain rfl : T.a_BadRow = Ca := Option.some.inj h
    exact T.m_BadRow_BadParameter.trans (congrArg some (by decide))
  | 4, Ca, h => by
    obtain rfl : T.a_BadParameter = Ca := Option.some.inj h
    exact T.m_BadParameter_BadParameter.trans (congrArg some (by decide))
  | 5, Ca, h => by
    obtain rfl : T.a_NoRow = Ca := Option.some.inj h
    exact T.m_NoRow_BadParameter.trans (congrArg some (by decide))
  | 6, Ca, h => by
    obtain rfl : T.a_TooGreat = Ca := Option.some.inj h
    exact T.m_TooGreat_BadParameter.trans (congrArg some (by decide))
  | n + 7, Ca, h => by cases (show (none : Option Addr) = some Ca from h)
theorem m_BadParameter {P : Program} {w : World} {K : PySem.W.Frag} {mg : Str → Option Value} {base : Heap} (T : Facts P w K mg base) {C : Cs} (hc : C.cls = clsT T) : ∀ (j : Nat) (Ca : Addr), C.cls j = some Ca → PySem.W.exmOne K (.ref Ca) (.ref T.a_BadParameter) = some (([4] : List Nat).contains j) := by
  rw [hc]
  exact m_BadParameter0 T
theorem m_BadRow0 {P : Program} {w : World} {K : PySem.W.Frag} {mg : Str → Option Value} {base : Heap} (T : Facts P w K mg base) : ∀ (j : Nat) (Ca : Addr), clsT T j = some Ca → PySem.W.exmOne K (.ref Ca) (.ref T.a_BadRow) = some (([3] : List Nat).contains j)
  | 0, Ca, h => by
    obtain rfl : T.a_StepError = Ca := Option.some.inj h
    exact T.m_StepError_BadRow.trans (congrArg some (by decide))
  | 1, Ca, h => by
    obtain rfl : T.a_BadNumber = Ca := Option.some.inj h
    exact T.m_BadNumber_BadRow.trans (congrArg some (by decide))
  | 2, Ca, h => by
    obtain rfl : T.a_BadStep = Ca := Option.some.inj h
    exact T.m_BadStep_BadRow.trans (congrArg some (by decide))
  | 3, Ca, h => by
    obtain rfl : T.a_BadRow = Ca := Option.some.inj h
    exact T.m_BadRow_BadRow.trans (congrArg some (by decide))
  | 4, Ca, h => by
    obtain rfl : T.a_BadParameter = Ca := Option.some.inj h
    exact T.m_BadParameter_BadRow.trans (congrArg some (by decide))
  | 5, Ca, h => by
    obtain rfl : T.a_NoRow = Ca := Option.some.inj h
    exact T.m_NoRow_BadRow.trans (congrArg some (by decide))
  | 6, Ca, h => by
    obtain rfl : T.a_TooGreat = Ca := Option.some.inj h
    exact T.m_TooGreat_BadRow.trans (congrArg some (by decide))
  | n + 7, Ca, h => by cases (show (none : Option Addr) = some Ca from h)
theorem m_BadRow {P : Program} {w : World} {K : PySem.W.Frag} {mg : Str → Option Value} {base : Heap} (T : Facts P w K mg base) {C : Cs} (hc : C.cls = clsT T) : ∀ (j : Nat) (Ca : Addr), C.cls j = some Ca → PySem.W.exmOne K (.ref Ca) (.ref T.a_BadRow) = some (([3] : List Nat).contains j) := by
  rw [hc]
  exact m_BadRow0 T
theorem m_BadStep0 {P : Program} {w : World} {K : PySem.W.Frag} {mg : Str → Option Value} {base : Heap} (T : Facts P w K mg base) : ∀ (j : Nat) (Ca : Addr), clsT T j = some Ca → PySem.W.exmOne K (.ref Ca) (.ref T.a_BadStep) = some (([2] : List Nat).contains j)
  | 0, Ca, h => by
    obtain rfl : T.a_StepError = Ca := Option.some.inj h
    exact T.m_StepError_BadStep.trans (congrArg some (by decide))
  | 1, Ca, h => by
    obtain rfl : T.a_BadNumber = Ca := Option.some.inj h
    exact T.m_BadNumber_BadStep.trans (congrArg some (by decide))
  | 2, Ca, h => by
    obtain rfl : T.a_BadStep = Ca := Option.some.inj h
    exact T.m_BadStep_BadStep.trans (congrArg some (by decide))
  | 3, Ca, h => by
    obtain rfl : T.a_BadRow = Ca := Option.some.inj h
    exact T.m_BadRow_BadStep.trans (congrArg some (by decide))
  | 4, Ca, h => by
    obtain rfl : T.a_BadParameter = Ca := Option.some.inj h
    exact T.m_BadParameter_BadStep.trans (congrArg some (by decide))
  | 5, Ca, h => by
    obtain rfl : T.a_NoRow = Ca := Option.some.inj h
    exact T.m_NoRow_BadStep.trans (congrArg some (by decide))
  | 6, Ca, h => by
    obtain rfl : T.a_TooGreat = Ca := Option.some.inj h
    exact T.m_TooGreat_BadStep.trans (congrArg some (by decide))
  | n + 7, Ca, h => by cases (show (none : Option Addr) = some Ca from h)
theorem m_BadStep {P : Program} {w : World} {K : PySem.W.Frag} {mg : Str → Option Value} {base : Heap} (T : Facts P w K mg base) {C : Cs} (hc : C.cls = clsT T) : ∀ (j : Nat) (Ca : Addr), C.cls j = some Ca → PySem.W.exmOne K (.ref Ca) (.ref T.a_BadStep) = some (([2] : List Nat).contains j) := by
  rw [hc]
  exact m_BadStep0 T
theorem m_NoRow0 {P : Program} {w : World} {K : PySem.W.Frag} {mg : Str → Option Value} {base : Heap} (T : Facts P w K mg base) : ∀ (j : Nat) (Ca : Addr), clsT T j = some Ca → PySem.W.exmOne K (.ref Ca) (.ref T.a_NoRow) = some (([5] : List Nat).contains j)
  | 0, Ca, h => by
    obtain rfl : T.a_StepError = Ca := Option.some.inj h
    exact T.m_StepError_NoRow.trans (congrArg some (by decide))
  | 1, Ca, h => by
    obtain rfl : T.a_BadNumber = Ca := Option.some.inj h
    exact T.m_BadNumber_NoRow.trans (congrArg some (by decide))
  | 2, Ca, h => by
    obtain rfl : T.a_BadStep = Ca := Option.some.inj h
    exact T.m_BadStep_NoRow.trans (congrArg some (by decide))
  | 3, Ca, h => by
    obtain rfl : T.a_BadRow = Ca := Option.some.inj h
    exact T.m_BadRow_NoRow.trans (congrArg some (by decide))
  | 4, Ca, h => by
    obtain rfl : T.a_BadParameter = Ca := Option.some.inj h
    exact T.m_BadParameter_NoRow.trans (congrArg some (by decide))
  | 5, Ca, h => by
    obtain rfl : T.a_NoRow = Ca := Option.some.inj h
    exact T.m_NoRow_NoRow.trans (congrArg some (by decide))
  | 6, Ca, h => by
    obtain rfl : T.a_TooGreat = Ca := Option.some.inj h
    exact T.m_TooGreat_NoRow.trans (congrArg some (by decide))
  | n + 7, Ca, h => by cases (show (none : Option Addr) = some Ca from h)
theorem m_NoRow {P : Program} {w : World} {K : PySem.W.Frag} {mg : Str → Option Value} {base : Heap} (T : Facts P w K mg base) {C : Cs} (hc : C.cls = clsT T) : ∀ (j : Nat) (Ca : Addr), C.cls j = some Ca → PySem.W.exmOne K (.ref Ca) (.ref T.a_NoRow) = some (([5] : List Nat).contains j) := by
  rw [hc]
  exact m_NoRow0 T
theorem m_StepError0 {P : Program} {w : World} {K : PySem.W.Frag} {mg : Str → Option Value} {base : Heap} (T : Facts P w K mg base) : ∀ (j : Nat) (Ca : Addr), clsT T j = some Ca → PySem.W.exmOne K (.ref Ca) (.ref T.a_StepError) = some (([0, 1, 2, 3, 4, 5, 6] : List Nat).contains j)
  | 0, Ca, h => by
    obtain rfl : T.a_StepError = Ca := Option.some.inj h
    exact T.m_StepError_StepError.trans (congrArg some (by decide))
  | 1, Ca, h => by
    obtain rfl : T.a_BadNumber = Ca := Option.some.inj h
    exact T.m_BadNumber_StepError.trans (congrArg some (by decide))
  | 2, Ca, h => by
    obtain rfl : T.a_BadStep = Ca := Option.some.inj h
    exact T.m_BadStep_StepError.trans (congrArg some (by decide))
  | 3, Ca, h => by
    obtain rfl : T.a_BadRow = Ca := Option.some.inj h
    exact T.m_BadRow_StepError.trans (congrArg some (by decide))
  | 4, Ca, h => by
    obtain rfl : T.a_BadParameter = Ca := Option.some.inj h
    exact T.m_BadParameter_StepError.trans (congrArg some (by decide))
  | 5, Ca, h => by
    obtain rfl : T.a_NoRow = Ca := Option.some.inj h
    exact T.m_NoRow_StepError.trans (congrArg some (by decide))
  | 6, Ca, h => by
    obtain rfl : T.a_TooGreat = Ca := Option.some.inj h
    exact T.m_TooGreat_StepError.trans (congrArg some (by decide))
  | n + 7, Ca, h => by cases (show (none : Option Addr) = some Ca from h)
theorem m_StepError {P : Program} {w : World} {K : PySem.W.Frag} {mg : Str → Option Value} {base : Heap} (T : Facts P w K mg base) {C : Cs} (hc : C.cls = clsT T) : ∀ (j : Nat) (Ca : Addr), C.cls j = some Ca → PySem.W.exmOne K (.ref Ca) (.ref T.a_StepError) = some (([0, 1, 2, 3, 4, 5, 6] : List Nat).contains j) := by
  rw [hc]
  exact m_StepError0 T
theorem m_TooGreat0 {P : Program} {w : World} {K : PySem.W.Frag} {mg : Str → Option Value} {base : Heap} (T : Facts P w K mg base) : ∀ (j : Nat) (Ca : Addr), clsT T j = some Ca → PySem.W.exmOne K (.ref Ca) (.ref T.a_TooGreat) = some (([6] : List Nat).contains j)
  | 0, Ca, h => by
    obtain rfl : T.a_StepError = Ca := Option.some.inj h
    exact T.m_StepError_TooGreat.trans (congrArg some (by decide))
  | 1, Ca, h => by
    obtain rfl : T.a_BadNumber = Ca := Option.some.inj h
    exact T.m_BadNumber_TooGreat.trans (congrArg some (by decide))
  | 2, Ca, h => by
    obtain rfl : T.a_BadStep = Ca := Option.some.inj h
    exact T.m_BadStep_TooGreat.trans (congrArg some (by decide))
  | 3, Ca, h => by
    obtain rfl : T.a_BadRow = Ca := Option.some.inj h
    exact T.m_BadRow_TooGreat.trans (congrArg some (by decide))
  | 4, Ca, h => by
    obtain rfl : T.a_BadParameter = Ca := Option.some.inj h
    exact T.m_BadParameter_TooGreat.trans (congrArg some (by decide))
  | 5, Ca, h => by
    obtain rfl : T.a_NoRow = Ca := Option.some.inj h
    exact T.m_NoRow_TooGreat.trans (congrArg some (by decide))
  | 6, Ca, h => by
    obtain rfl : T.a_TooGreat = Ca := Option.some.inj h
    exact T.m_TooGreat_TooGreat.trans (congrArg some (by decide))
  | n + 7, Ca, h => by cases (show (none : Option Addr) = some Ca from h)
theorem m_TooGreat {P : Program} {w : World} {K : PySem.W.Frag} {mg : Str → Option Value} {base : Heap} (T : Facts P w K mg base) {C : Cs} (hc : C.cls = clsT T) : ∀ (j : Nat) (Ca : Addr), C.cls j = some Ca → PySem.W.exmOne K (.ref Ca) (.ref T.a_TooGreat) = some (([6] : List Nat).contains j) := by
  rw [hc]
  exact m_TooGreat0 T
abbrev st__law_begin : Stmt := top 49
def N__law_begin : List Str := ["_law_script", "_law_cells_so", "_law_cell"]
theorem sc__law_begin : FnScope N__law_begin ["_law_script"] (defScope st__law_begin) := ⟨rfl, rfl, rfl, by decide +kernel, rfl, by decide +kernel, by decide +kernel⟩
theorem bd__law_begin {P : Program} {w : World} {K : PySem.W.Frag} {mg : Str → Option Value} {base : Heap} (T : Facts P w K mg base) : Binds K T.fd__law_begin ["_law_script"] [] :=
  T.F__law_begin.bindsN fun _ _ _ _ _ _ us hl => match us, hl with | [_], _ => rfl
theorem g__law_begin {P : Program} {w : World} {K : PySem.W.Frag} {mg : Str → Option Value} {base : Heap} {C : Cs} (T : Facts P w K mg base) (hst : C.st = none) (hent : C.ent = none) {k : Nat} : FnOk P w K mg base (L2.CX P w) (k + 1) T.a__law_begin T.fd__law_begin ["_law_script"] (spBegin C K) := by
  refine begin_fn hst hent T.F__law_begin sc__law_begin (by decide) fun cdv A outer s H E hr => ⟨rNeD K, _, ?_, fun x y H Q ⟨dx, dy, h1, h2, h3, h4, h5⟩ => ⟨dx, dy, h1, h2, h3, h4, h5⟩, retA (W := noW) hst (by decide)⟩
  have hN := (sc__law_begin).nd
  have hu := room_u hr
  have hu64 := room_v hr
  exact pss_cons (ps_set (i := 1) sc__law_begin.nd rfl (Or.inl rfl) (pe_ifExp (pt_cmpR (op_neD hu64) (pe_var (i := 0) rfl (Or.inl rfl)) (pe_lst pa_nil) (nomark _)) (pe_callTy call_list_of rfl T.list (by decide +kernel) (pa_cons (pe_var (i := 0) rfl (Or.inl rfl)) pa_nil)) (pe_lst (pa_cons pe_int pa_nil)))) (pss_one (ps_beginA (i := 1) rfl (Or.inl rfl) rfl rfl (se_comp (own := [("_law_cell", 2)]) rfl hN (sic_seq (se_var 1)) (blkOk_by (by first | rfl | kernel_rfl)) (fun _ _ _ _ _ => (st_v 2 hN)) (fun _ _ _ _ _ => (se_if (sb_cmp ok_ge (se_var 2) (se_op ok_pow se_int se_int)) (se_var 2) se_int)))))

abbrev st__law_like : Stmt := top 56
def N__law_like : List Str := ["_law_got", "_law_due"]
theorem sc__law_like : FnScope N__law_like ["_law_got", "_law_due"] (defScope st__law_like) := ⟨rfl, rfl, rfl, by decide +kernel, rfl, by decide +kernel, by decide +kernel⟩
theorem bd__law_like {P : Program} {w : World} {K : PySem.W.Frag} {mg : Str → Option Value} {base : Heap} (T : Facts P w K mg base) : Binds K T.fd__law_like ["_law_got", "_law_due"] [] :=
  T.F__law_like.bindsN fun _ _ _ _ _ _ us hl => match us, hl with | [_, _], _ => rfl
def b__law_like : S :=
 (sRet (eRepr (eVar 0) (eVar 1)))
def m__law_like : Fn := fnOf 2 2 b__law_like
theorem g__law_like {P : Program} {w : World} {K : PySem.W.Frag} {mg : Str → Option Value} {base : Heap} {C : Cs} (T : Facts P w K mg base) (hC : OkC T C) : FnG P w K mg base 1 T.a__law_like T.fd__law_like ["_law_got", "_law_due"] (spF C m__law_like) := by
  refine fn_body (k := 0) hC.ent T.F__law_like sc__law_like fun A outer s H E hr hgd => ?_
  have hN := (sc__law_like).nd
  have tk : Takes (cxOf (L2.CX P w) P w K mg base N__law_like "_law_like" (defScope st__law_like) T.a__law_like (.ref (codeAt K T.a__law_like)) A outer s H E) (fun cls d _ H => E cls d H) := takes_of rfl rfl rfl rfl
  have hp := passes_of (X := (cxOf (L2.CX P w) P w K mg base N__law_like "_law_like" (defScope st__law_like) T.a__law_like (.ref (codeAt K T.a__law_like)) A outer s H E)) rfl
  have hu := room_u hr
  have hu64 := room_v hr
  exact (ss_one (ss_ret (se_reprEq hr hgd rfl T.repr (se_var 0) (se_var 1))))

abbrev st__law_power : Stmt := top 58
def N__law_power : List Str := ["_law_size"]
theorem sc__law_power : FnScope N__law_power ["_law_size"] (defScope st__law_power) := ⟨rfl, rfl, rfl, by decide +kernel, rfl, by decide +kernel, by decide +kernel⟩
theorem bd__law_power {P : Program} {w : World} {K : PySem.W.Frag} {mg : Str → Option Value} {base : Heap} (T : Facts P w K mg base) : Binds K T.fd__law_power ["_law_size"] [] :=
  T.F__law_power.bindsN fun _ _ _ _ _ _ us hl => match us, hl with | [_], _ => rfl
def b__law_power : S :=
 (sRet (eBin oAdd (eBin oMulZ (eTup [(eTup [(eVal (.int 0)), (eVal (.int 1))])]) (eVar 0)) (eTup [(eTup [(eVal (.int 1)), (eVal (.int 1))])])))
def m__law_power : Fn := fnOf 1 1 b__law_power
theorem g__law_power {P : Program} {w : World} {K : PySem.W.Frag} {mg : Str → Option Value} {base : Heap} {C : Cs} (T : Facts P w K mg base) (hC : OkC T C) : FnG P w K mg base 1 T.a__law_power T.fd__law_power ["_law_size"] (spF C m__law_power) := by
  refine fn_body (k := 0) hC.ent T.F__law_power sc__law_power fun A outer s H E hr hgd => ?_
  have hN := (sc__law_power).nd
  have tk : Takes (cxOf (L2.CX P w) P w K mg base N__law_power "_law_power" (defScope st__law_power) T.a__law_power (.ref (codeAt K T.a__law_power)) A outer s H E) (fun cls d _ H => E cls d H) := takes_of rfl rfl rfl rfl
  have hp := passes_of (X := (cxOf (L2.CX P w) P w K mg base N__law_power "_law_power" (defScope st__law_power) T.a__law_power (.ref (codeAt K T.a__law_power)) A outer s H E)) rfl
  have hu := room_u hr
  have hu64 := room_v hr
  exact (ss_one (ss_ret (se_op ok_add (se_op ok_mulZ (se_tup (sa_cons (se_tup (sa_cons se_int (sa_cons se_int sa_nil))) sa_nil)) (se_var 0)) (se_tup (sa_cons (se_tup (sa_cons se_int (sa_cons se_int sa_nil))) sa_nil)))))

abbrev st__law_refusal : Stmt := top 57
def N__law_refusal : List Str := ["_law_tell", "e", "_law_found", "_law_answer"]
theorem sc__law_refusal : FnScope N__law_refusal ["_law_tell"] (defScope st__law_refusal) := ⟨rfl, rfl, rfl, by decide +kernel, rfl, by decide +kernel, by decide +kernel⟩
theorem bd__law_refusal {P : Program} {w : World} {K : PySem.W.Frag} {mg : Str → Option Value} {base : Heap} (T : Facts P w K mg base) : Binds K T.fd__law_refusal ["_law_tell"] [] :=
  T.F__law_refusal.bindsN fun _ _ _ _ _ _ us hl => match us, hl with | [_], _ => rfl
def b__law_refusal (th : Th) : S :=
 (sSeq (sUnp (.two (.v 2) (.v 3)) (eTup [(eVal .non), (eVal .non)]))
 (sSeq (sTry (sAsg 3 (eTh th))
 [⟨[1], some 1, (sAsg 2 (eTup [(eVal (.str "number")), (eField "value" (eVar 1))]))⟩, ⟨[2], some 1, (sAsg 2 (eTup [(eVal (.str "step")), (eField "value" (eVar 1))]))⟩, ⟨[3], some 1, (sAsg 2 (eTup [(eVal (.str "row")), (eField "place" (eVar 1))]))⟩, ⟨[4], some 1, (sAsg 2 (eTup [(eVal (.str "parameter")), (eField "value" (eVar 1))]))⟩, ⟨[6], some 1, (sAsg 2 (eTup [(eVal (.str "too great")), (eField "most" (eVar 1))]))⟩, ⟨[5], none, (sAsg 2 (eTup [(eVal (.str "no row"))]))⟩, ⟨[0, 1, 2, 3, 4, 5, 6], none, (sAsg 2 (eTup [(eVal (.str "other"))]))⟩])
 (sRet (eIf (eBin oIsB (eVar 2) (eVal .non)) (eTup [(eVal (.str "told")), (eVar 3)]) (eVar 2)))))
theorem gb__law_refusal {P : Program} {w : World} {K : PySem.W.Frag} {mg : Str → Option Value} {base : Heap} {C : Cs} (T : Facts P w K mg base) (hC : OkC T C) {A : Around} {outer : List Env} {cdv : Value} {s : Shared} {F H : Hp} {th : Th} {fa c' : Addr} {q : Str} {k : Nat} (hr : Room k (cxOf (L2.CX P w) P w K mg base N__law_refusal "_law_refusal" (defScope st__law_refusal) T.a__law_refusal cdv A outer s H fun _ _ _ => False).A) (hgd : (cxOf (L2.CX P w) P w K mg base N__law_refusal "_law_refusal" (defScope st__law_refusal) T.a__law_refusal cdv A outer s H fun _ _ _ => False).A.guards = some [])
    (hth : ∀ (W : WX) (pn : List (Addr × Obj)) (xe : Value → Shared → Prop) (p1 p2 : Pos), Takes ((cxOf (L2.CX P w) P w K mg base N__law_refusal "_law_refusal" (defScope st__law_refusal) T.a__law_refusal cdv A outer s H fun _ _ _ => False).tr pn xe) W → SE ((cxOf (L2.CX P w) P w K mg base N__law_refusal "_law_refusal" (defScope st__law_refusal) T.a__law_refusal cdv A outer s H fun _ _ _ => False).tr pn xe) (CsF C F H fa c' q) W (.Call (.Name "_law_tell" p1) [] [] p2) (eTh th)) :
    SSs (cxOf (L2.CX P w) P w K mg base N__law_refusal "_law_refusal" (defScope st__law_refusal) T.a__law_refusal cdv A outer s H fun _ _ _ => False) (CsF C F H fa c' q) noW (defBody st__law_refusal) (b__law_refusal th) := by
  have hN := (sc__law_refusal).nd
  have tk : Takes (cxOf (L2.CX P w) P w K mg base N__law_refusal "_law_refusal" (defScope st__law_refusal) T.a__law_refusal cdv A outer s H fun _ _ _ => False) noW := LamX.takes0
  have hp := passes_of (X := (cxOf (L2.CX P w) P w K mg base N__law_refusal "_law_refusal" (defScope st__law_refusal) T.a__law_refusal cdv A outer s H fun _ _ _ => False)) rfl
  have hu := room_u hr
  have hu64 := room_v hr
  exact (ss_cons (ss_unp (se_tup (sa_cons se_non (sa_cons se_non sa_nil))) (st_two rfl (st_v 2 hN) (st_v 3 hN)))
 (ss_cons (ss_try hC.exa rfl rfl hN tk (fun W pn xe tk hp => (ss_one (ss_set (i := 3) hN (hth _ _ _ _ _ tk)))) (HS.named rfl rfl ⟨rfl, by decide, Or.inl T.g_BadNumber⟩ (m_BadNumber T hC.cls) (fun j Ca a oe e pn hjc hj hz hf => (ss_one (ss_set (i := 2) hN (se_tup (sa_cons se_str (sa_cons (se_field rfl (xf_all T hC.cls _ _ hj) (no_value T hC.cls _ _ hj) hz hf (se_var 1)) sa_nil)))))) (HS.named rfl rfl ⟨rfl, by decide, Or.inl T.g_BadStep⟩ (m_BadStep T hC.cls) (fun j Ca a oe e pn hjc hj hz hf => (ss_one (ss_set (i := 2) hN (se_tup (sa_cons se_str (sa_cons (se_field rfl (xf_all T hC.cls _ _ hj) (no_value T hC.cls _ _ hj) hz hf (se_var 1)) sa_nil)))))) (HS.named rfl rfl ⟨rfl, by decide, Or.inl T.g_BadRow⟩ (m_BadRow T hC.cls) (fun j Ca a oe e pn hjc hj hz hf => (ss_one (ss_set (i := 2) hN (se_tup (sa_cons se_str (sa_cons (se_field rfl (xf_all T hC.cls _ _ hj) (no_place T hC.cls _ _ hj) hz hf (se_var 1)) sa_nil)))))) (HS.named rfl rfl ⟨rfl, by decide, Or.inl T.g_BadParameter⟩ (m_BadParameter T hC.cls) (fun j Ca a oe e pn hjc hj hz hf => (ss_one (ss_set (i := 2) hN (se_tup (sa_cons se_str (sa_cons (se_field rfl (xf_all T hC.cls _ _ hj) (no_value T hC.cls _ _ hj) hz hf (se_var 1)) sa_nil)))))) (HS.named rfl rfl ⟨rfl, by decide, Or.inl T.g_TooGreat⟩ (m_TooGreat T hC.cls) (fun j Ca a oe e pn hjc hj hz hf => (ss_one (ss_set (i := 2) hN (se_tup (sa_cons se_str (sa_cons (se_field rfl (xf_all T hC.cls _ _ hj) (no_most T hC.cls _ _ hj) hz hf (se_var 1)) sa_nil)))))) (HS.plain ⟨rfl, by decide, Or.inl T.g_NoRow⟩ (m_NoRow T hC.cls) (fun a oe cls e pn hz hf => (ss_one (ss_set (i := 2) hN (se_tup (sa_cons se_str sa_nil))))) (HS.plain ⟨rfl, by decide, Or.inl T.g_StepError⟩ (m_StepError T hC.cls) (fun a oe cls e pn hz hf => (ss_one (ss_set (i := 2) hN (se_tup (sa_cons se_str sa_nil))))) HS.nil))))))))
 (ss_one (ss_ret (se_if (sb_cmp ok_isN (se_var 2) se_non) (se_tup (sa_cons se_str (sa_cons (se_var 3) sa_nil))) (se_var 2))))))

abbrev st_reduced : Stmt := top 17
def N_reduced : List Str := ["numbers", "below", "many", "whole", "number"]
theorem sc_reduced : FnScope N_reduced ["numbers", "below"] (defScope st_reduced) := ⟨rfl, rfl, rfl, by decide +kernel, rfl, by decide +kernel, by decide +kernel⟩
theorem bd_reduced {P : Program} {w : World} {K : PySem.W.Frag} {mg : Str → Option Value} {base : Heap} (T : Facts P w K mg base) : Binds K T.fd_reduced ["numbers", "below"] [] :=
  T.F_reduced.bindsN fun _ _ _ _ _ _ us hl => match us, hl with | [_, _], _ => rfl
def b_reduced : S :=
 (sSeq (sAsg 2 (eUn oLen (eVar 0)))
 (sSeq (sWhile (eAnd (eBin oGt (eVar 2) (eVal (.int 0))) (eBin oEq (eBin oIx (eVar 0) (eBin oSub (eVar 2) (eVal (.int 1)))) (eVal (.int 0))))
 (sAsg 2 (eBin oSub (eVar 2) (eVal (.int 1)))))
 (sSeq (sAsg 3 (eBin oGcd (eVar 1) (eVal (.int 0))))
 (sSeq (sFor (iSeq (eSlice (eVar 0) none (some (eVar 2)))) (.v 4)
 (sAsg 3 (eBin oGcd (eVar 3) (eVar 4))))
 (sSeq (sIf (eBin oLt (eVar 1) (eVal (.int 0)))
 (sAsg 3 (eUn oNeg (eVar 3)))
 sPass)
 (sRet (eTup [(eComp [4] (iSeqB (eSlice (eVar 0) none (some (eVar 2)))) (.v 4) none (eBin oDiv (eVar 4) (eVar 3))), (eBin oDiv (eVar 1) (eVar 3))])))))))
def m_reduced : Fn := fnOf 2 5 b_reduced
theorem g_reduced {P : Program} {w : World} {K : PySem.W.Frag} {mg : Str → Option Value} {base : Heap} {C : Cs} (T : Facts P w K mg base) (hC : OkC T C) : FnG P w K mg base 1 T.a_reduced T.fd_reduced ["numbers", "below"] (spF C m_reduced) := by
  refine fn_body (k := 0) hC.ent T.F_reduced sc_reduced fun A outer s H E hr hgd => ?_
  have hN := (sc_reduced).nd
  have tk : Takes (cxOf (L2.CX P w) P w K mg base N_reduced "reduced" (defScope st_reduced) T.a_reduced (.ref (codeAt K T.a_reduced)) A outer s H E) (fun cls d _ H => E cls d H) := takes_of rfl rfl rfl rfl
  have hp := passes_of (X := (cxOf (L2.CX P w) P w K mg base N_reduced "reduced" (defScope st_reduced) T.a_reduced (.ref (codeAt K T.a_reduced)) A outer s H E)) rfl
  have hu := room_u hr
  have hu64 := room_v hr
  exact (ss_cons (ss_set (i := 2) hN (se_b1 (c_len) rfl T.len (by decide +kernel) (se_var 0)))
 (ss_cons (ss_while hp (sb_w (sbw_and (sb_cmp ok_gt (se_var 2) se_int) (sbw_one_and (sb_cmp (ok_eq hu64) (se_ix hu (se_var 0) (se_op ok_sub (se_var 2) se_int)) se_int)))) (ss_one (ss_set (i := 2) hN (se_op ok_sub (se_var 2) se_int))))
 (ss_cons (ss_set (i := 3) hN (se_g2 c_gcd rfl T.gcd (se_var 1) se_int))
 (ss_cons (ss_for hp rfl (si_seq (se_slice (se_var 0) so_none (so_some (se_var 2)))) (st_v 4 hN) (ss_one (ss_set (i := 3) hN (se_g2 c_gcd rfl T.gcd (se_var 3) (se_var 4)))))
 (ss_cons (ss_if (sb_cmp ok_lt (se_var 1) se_int) (ss_one (ss_set (i := 3) hN (se_neg (se_var 3)))) ss_nil)
 (ss_one (ss_ret (se_tup (sa_cons (se_comp (own := [("number", 4)]) rfl hN (sic_seq (se_slice (se_var 0) so_none (so_some (se_var 2)))) (blkOk_by (by first | rfl | kernel_rfl)) (fun _ _ _ _ _ => (st_v 4 hN)) (fun _ _ _ _ _ => (se_op ok_div (se_var 4) (se_var 3)))) (sa_cons (se_op ok_div (se_var 1) (se_var 3)) sa_nil))))))))))

abbrev st_as_poly : Stmt := top 18
def N_as_poly : List Str := ["step", "below", "number"]
theorem sc_as_poly : FnScope N_as_poly ["step"] (defScope st_as_poly) := ⟨rfl, rfl, rfl, by decide +kernel, rfl, by decide +kernel, by decide +kernel⟩
theorem bd_as_poly {P : Program} {w : World} {K : PySem.W.Frag} {mg : Str → Option Value} {base : Heap} (T : Facts P w K mg base) : Binds K T.fd_as_poly ["step"] [] :=
  T.F_as_poly.bindsN fun _ _ _ _ _ _ us hl => match us, hl with | [_], _ => rfl
def b_as_poly : S :=
 (sSeq (sAsg 1 (eVal (.int 1)))
 (sSeq (sFor (iSeq (eVar 0)) (.v 2)
 (sAsg 1 (eBin oDiv (eBin oMul (eVar 1) (eBin oIx (eVar 2) (eVal (.int 1)))) (eBin oGcd (eVar 1) (eBin oIx (eVar 2) (eVal (.int 1)))))))
 (sRet (eCall m_reduced [(eComp [2] (iSeqB (eVar 0)) (.v 2) none (eBin oMul (eBin oIx (eVar 2) (eVal (.int 0))) (eBin oDiv (eVar 1) (eBin oIx (eVar 2) (eVal (.int 1)))))), (eVar 1)]))))
def m_as_poly : Fn := fnOf 1 3 b_as_poly
theorem g_as_poly {P : Program} {w : World} {K : PySem.W.Frag} {mg : Str → Option Value} {base : Heap} {C : Cs} (T : Facts P w K mg base) (hC : OkC T C) : FnG P w K mg base 2 T.a_as_poly T.fd_as_poly ["step"] (spF C m_as_poly) := by
  refine fn_body (k := 1) hC.ent T.F_as_poly sc_as_poly fun A outer s H E hr hgd => ?_
  have hN := (sc_as_poly).nd
  have tk : Takes (cxOf (L2.CX P w) P w K mg base N_as_poly "as_poly" (defScope st_as_poly) T.a_as_poly (.ref (codeAt K T.a_as_poly)) A outer s H E) (fun cls d _ H => E cls d H) := takes_of rfl rfl rfl rfl
  have hp := passes_of (X := (cxOf (L2.CX P w) P w K mg base N_as_poly "as_poly" (defScope st_as_poly) T.a_as_poly (.ref (codeAt K T.a_as_poly)) A outer s H E)) rfl
  have hu := room_u hr
  have hu64 := room_v hr
  exact (ss_cons (ss_set (i := 1) hN se_int)
 (ss_cons (ss_for hp rfl (si_seq (se_var 0)) (st_v 2 hN) (ss_one (ss_set (i := 1) hN (se_op ok_div (se_op ok_mul (se_var 1) (se_ix hu (se_var 2) se_int)) (se_g2 c_gcd rfl T.gcd (se_var 1) (se_ix hu (se_var 2) se_int))))))
 (ss_one (ss_ret (se_call ((g_reduced T hC).mono (by decide)) hr hgd rfl T.g_reduced T.k_reduced (bd_reduced T) tk (sa_cons (se_comp (own := [("number", 2)]) rfl hN (sic_seq (se_var 0)) (blkOk_by (by first | rfl | kernel_rfl)) (fun _ _ _ _ _ => (st_v 2 hN)) (fun _ _ _ _ _ => (se_op ok_mul (se_ix hu (se_var 2) se_int) (se_op ok_div (se_var 1) (se_ix hu (se_var 2) se_int))))) (sa_cons (se_var 1) sa_nil)))))))

abbrev st_is_from : Stmt := top 12
def N_is_from : List Str := ["value", "low", "high"]
theorem sc_is_from : FnScope N_is_from ["value", "low", "high"] (defScope st_is_from) := ⟨rfl, rfl, rfl, by decide +kernel, rfl, by decide +kernel, by decide +kernel⟩
theorem bd_is_from {P : Program} {w : World} {K : PySem.W.Frag} {mg : Str → Option Value} {base : Heap} (T : Facts P w K mg base) : Binds K T.fd_is_from ["value", "low", "high"] [] :=
  T.F_is_from.bindsN fun _ _ _ _ _ _ us hl => match us, hl with | [_, _, _], _ => rfl
def b_is_from : S :=
 (sRet (eAnd (eUn (oIs Ty.int) (eVar 0)) (eAnd (eNot (eUn (oIs Ty.bool) (eVar 0))) (eChain oLe oLe (eVar 1) (eVar 0) (eVar 2)))))
def m_is_from : Fn := fnOf 3 3 b_is_from
theorem g_is_from {P : Program} {w : World} {K : PySem.W.Frag} {mg : Str → Option Value} {base : Heap} {C : Cs} (T : Facts P w K mg base) (hC : OkC T C) : FnG P w K mg base 1 T.a_is_from T.fd_is_from ["value", "low", "high"] (spF C m_is_from) := by
  refine fn_body (k := 0) hC.ent T.F_is_from sc_is_from fun A outer s H E hr hgd => ?_
  have hN := (sc_is_from).nd
  have tk : Takes (cxOf (L2.CX P w) P w K mg base N_is_from "is_from" (defScope st_is_from) T.a_is_from (.ref (codeAt K T.a_is_from)) A outer s H E) (fun cls d _ H => E cls d H) := takes_of rfl rfl rfl rfl
  have hp := passes_of (X := (cxOf (L2.CX P w) P w K mg base N_is_from "is_from" (defScope st_is_from) T.a_is_from (.ref (codeAt K T.a_is_from)) A outer s H E)) rfl
  have hu := room_u hr
  have hu64 := room_v hr
  exact (ss_one (ss_ret (se_and (se_isi (x := "") Ty.int rfl T.isinstance rfl T.int (by decide +kernel) (se_var 0)) (se_and (se_not (se_isi (x := "") Ty.bool rfl T.isinstance rfl T.bool (by decide +kernel) (se_var 0))) (se_one (se_chain ok_le ok_le (se_var 1) (se_var 0) (se_var 2)))))))

abbrev st_is_number : Stmt := top 13
def N_is_number : List Str := ["value"]
theorem sc_is_number : FnScope N_is_number ["value"] (defScope st_is_number) := ⟨rfl, rfl, rfl, by decide +kernel, rfl, by decide +kernel, by decide +kernel⟩
theorem bd_is_number {P : Program} {w : World} {K : PySem.W.Frag} {mg : Str → Option Value} {base : Heap} (T : Facts P w K mg base) : Binds K T.fd_is_number ["value"] [] :=
  T.F_is_number.bindsN fun _ _ _ _ _ _ us hl => match us, hl with | [_], _ => rfl
def b_is_number : S :=
 (sSeq (sIf (eOr (eNot (eUn (oIs Ty.tuple) (eVar 0))) (eBin oNe (eUn oLen (eVar 0)) (eVal (.int 2))))
 (sRet (eVal (.bl false)))
 sPass)
 (sSeq (sIf (eOr (eNot (eCall m_is_from [(eBin oIx (eVar 0) (eVal (.int 0))), (eUn oNeg (eVal (.int c_MOST_PART))), (eVal (.int c_MOST_PART))])) (eNot (eCall m_is_from [(eBin oIx (eVar 0) (eVal (.int 1))), (eVal (.int 1)), (eVal (.int c_MOST_PART))])))
 (sRet (eVal (.bl false)))
 sPass)
 (sRet (eBin oEq (eBin oGcd (eBin oIx (eVar 0) (eVal (.int 0))) (eBin oIx (eVar 0) (eVal (.int 1)))) (eVal (.int 1))))))
def m_is_number : Fn := fnOf 1 1 b_is_number
theorem g_is_number {P : Program} {w : World} {K : PySem.W.Frag} {mg : Str → Option Value} {base : Heap} {C : Cs} (T : Facts P w K mg base) (hC : OkC T C) : FnG P w K mg base 2 T.a_is_number T.fd_is_number ["value"] (spF C m_is_number) := by
  refine fn_body (k := 1) hC.ent T.F_is_number sc_is_number fun A outer s H E hr hgd => ?_
  have hN := (sc_is_number).nd
  have tk : Takes (cxOf (L2.CX P w) P w K mg base N_is_number "is_number" (defScope st_is_number) T.a_is_number (.ref (codeAt K T.a_is_number)) A outer s H E) (fun cls d _ H => E cls d H) := takes_of rfl rfl rfl rfl
  have hp := passes_of (X := (cxOf (L2.CX P w) P w K mg base N_is_number "is_number" (defScope st_is_number) T.a_is_number (.ref (codeAt K T.a_is_number)) A outer s H E)) rfl
  have hu := room_u hr
  have hu64 := room_v hr
  exact (ss_cons (ss_if (sb_w (sbw_or (sb_not (sb_val (se_isi (x := "") Ty.tuple rfl T.isinstance rfl T.tuple (by decide +kernel) (se_var 0)))) (sbw_one_or (sb_cmp (ok_ne hu64) (se_b1 (c_len) rfl T.len (by decide +kernel) (se_var 0)) se_int)))) (ss_one (ss_ret se_bl)) ss_nil)
 (ss_cons (ss_if (sb_w (sbw_or (sb_not (sb_val (se_call ((g_is_from T hC).mono (by decide)) hr hgd rfl T.g_is_from T.k_is_from (bd_is_from T) tk (sa_cons (se_ix hu (se_var 0) se_int) (sa_cons (se_neg (se_glI rfl T.MOST_PART)) (sa_cons (se_glI rfl T.MOST_PART) sa_nil)))))) (sbw_one_or (sb_not (sb_val (se_call ((g_is_from T hC).mono (by decide)) hr hgd rfl T.g_is_from T.k_is_from (bd_is_from T) tk (sa_cons (se_ix hu (se_var 0) se_int) (sa_cons se_int (sa_cons (se_glI rfl T.MOST_PART) sa_nil))))))))) (ss_one (ss_ret se_bl)) ss_nil)
 (ss_one (ss_ret (se_cmp (ok_eq hu64) (se_g2 c_gcd rfl T.gcd (se_ix hu (se_var 0) se_int) (se_ix hu (se_var 0) se_int)) se_int)))))

abbrev st_is_step : Stmt := top 14
def N_is_step : List Str := ["value", "number"]
theorem sc_is_step : FnScope N_is_step ["value"] (defScope st_is_step) := ⟨rfl, rfl, rfl, by decide +kernel, rfl, by decide +kernel, by decide +kernel⟩
theorem bd_is_step {P : Program} {w : World} {K : PySem.W.Frag} {mg : Str → Option Value} {base : Heap} (T : Facts P w K mg base) : Binds K T.fd_is_step ["value"] [] :=
  T.F_is_step.bindsN fun _ _ _ _ _ _ us hl => match us, hl with | [_], _ => rfl
def b_is_step : S :=
 (sSeq (sIf (eOr (eNot (eUn (oIs Ty.tuple) (eVar 0))) (eNot (eChain oLe oLe (eVal (.int 2)) (eUn oLen (eVar 0)) (eBin oAdd (eVal (.int c_MOST_DEGREE)) (eVal (.int 1))))))
 (sRet (eVal (.bl false)))
 sPass)
 (sSeq (sFor (iSeq (eVar 0)) (.v 1)
 (sIf (eNot (eCall m_is_number [(eVar 1)]))
 (sRet (eVal (.bl false)))
 sPass))
 (sRet (eBin oNe (eBin oIx (eBin oIx (eVar 0) (eUn oNeg (eVal (.int 1)))) (eVal (.int 0))) (eVal (.int 0))))))
def m_is_step : Fn := fnOf 1 2 b_is_step
theorem g_is_step {P : Program} {w : World} {K : PySem.W.Frag} {mg : Str → Option Value} {base : Heap} {C : Cs} (T : Facts P w K mg base) (hC : OkC T C) : FnG P w K mg base 3 T.a_is_step T.fd_is_step ["value"] (spF C m_is_step) := by
  refine fn_body (k := 2) hC.ent T.F_is_step sc_is_step fun A outer s H E hr hgd => ?_
  have hN := (sc_is_step).nd
  have tk : Takes (cxOf (L2.CX P w) P w K mg base N_is_step "is_step" (defScope st_is_step) T.a_is_step (.ref (codeAt K T.a_is_step)) A outer s H E) (fun cls d _ H => E cls d H) := takes_of rfl rfl rfl rfl
  have hp := passes_of (X := (cxOf (L2.CX P w) P w K mg base N_is_step "is_step" (defScope st_is_step) T.a_is_step (.ref (codeAt K T.a_is_step)) A outer s H E)) rfl
  have hu := room_u hr
  have hu64 := room_v hr
  exact (ss_cons (ss_if (sb_w (sbw_or (sb_not (sb_val (se_isi (x := "") Ty.tuple rfl T.isinstance rfl T.tuple (by decide +kernel) (se_var 0)))) (sbw_one_or (sb_not (sb_chain ok_le ok_le se_int (se_b1 (c_len) rfl T.len (by decide +kernel) (se_var 0)) (se_op ok_add (se_glI rfl T.MOST_DEGREE) se_int)))))) (ss_one (ss_ret se_bl)) ss_nil)
 (ss_cons (ss_for hp rfl (si_seq (se_var 0)) (st_v 1 hN) (ss_one (ss_if (sb_not (sb_val (se_call ((g_is_number T hC).mono (by decide)) hr hgd rfl T.g_is_number T.k_is_number (bd_is_number T) tk (sa_cons (se_var 1) sa_nil)))) (ss_one (ss_ret se_bl)) ss_nil)))
 (ss_one (ss_ret (se_cmp (ok_ne hu64) (se_ix hu (se_ix hu (se_var 0) (se_neg se_int)) se_int) se_int)))))

abbrev st_need_step : Stmt := top 15
def N_need_step : List Str := ["value"]
theorem sc_need_step : FnScope N_need_step ["value"] (defScope st_need_step) := ⟨rfl, rfl, rfl, by decide +kernel, rfl, by decide +kernel, by decide +kernel⟩
theorem bd_need_step {P : Program} {w : World} {K : PySem.W.Frag} {mg : Str → Option Value} {base : Heap} (T : Facts P w K mg base) : Binds K T.fd_need_step ["value"] [] :=
  T.F_need_step.bindsN fun _ _ _ _ _ _ us hl => match us, hl with | [_], _ => rfl
def b_need_step : S :=
 (sSeq (sIf (eNot (eCall m_is_step [(eVar 0)]))
 (sRaise (xOne 2 "value") [(eVar 0)])
 sPass)
 (sRetV 0))
def m_need_step : Fn := fnOf 1 1 b_need_step
theorem g_need_step {P : Program} {w : World} {K : PySem.W.Frag} {mg : Str → Option Value} {base : Heap} {C : Cs} (T : Facts P w K mg base) (hC : OkC T C) : FnG P w K mg base 4 T.a_need_step T.fd_need_step ["value"] (spF C m_need_step) := by
  refine fn_body (k := 3) hC.ent T.F_need_step sc_need_step fun A outer s H E hr hgd => ?_
  have hN := (sc_need_step).nd
  have tk : Takes (cxOf (L2.CX P w) P w K mg base N_need_step "need_step" (defScope st_need_step) T.a_need_step (.ref (codeAt K T.a_need_step)) A outer s H E) (fun cls d _ H => E cls d H) := takes_of rfl rfl rfl rfl
  have hp := passes_of (X := (cxOf (L2.CX P w) P w K mg base N_need_step "need_step" (defScope st_need_step) T.a_need_step (.ref (codeAt K T.a_need_step)) A outer s H E)) rfl
  have hu := room_u hr
  have hu64 := room_v hr
  exact (ss_cons (ss_if (sb_not (sb_val (se_call ((g_is_step T hC).mono (by decide)) hr hgd rfl T.g_is_step T.k_is_step (bd_is_step T) tk (sa_cons (se_var 0) sa_nil)))) (ss_one (ss_raise1 T.x_BadStep hr rfl tk (by rw [hC.cls]; rfl) (se_var 0) rfl T.g_BadStep)) ss_nil)
 (ss_one (ss_retV (i := 0))))

abbrev st_check_degree : Stmt := top 28
def N_check_degree : List Str := ["degree"]
theorem sc_check_degree : FnScope N_check_degree ["degree"] (defScope st_check_degree) := ⟨rfl, rfl, rfl, by decide +kernel, rfl, by decide +kernel, by decide +kernel⟩
theorem bd_check_degree {P : Program} {w : World} {K : PySem.W.Frag} {mg : Str → Option Value} {base : Heap} (T : Facts P w K mg base) : Binds K T.fd_check_degree ["degree"] [] :=
  T.F_check_degree.bindsN fun _ _ _ _ _ _ us hl => match us, hl with | [_], _ => rfl
def b_check_degree : S :=
 (sIf (eBin oGt (eVar 0) (eVal (.int c_MOST_WHOLE)))
 (sRaise (xOne 6 "most") [(eVal (.int c_MOST_WHOLE))])
 sPass)
def m_check_degree : Fn := fnOf 1 1 b_check_degree
theorem g_check_degree {P : Program} {w : World} {K : PySem.W.Frag} {mg : Str → Option Value} {base : Heap} {C : Cs} (T : Facts P w K mg base) (hC : OkC T C) : FnG P w K mg base 1 T.a_check_degree T.fd_check_degree ["degree"] (spF C m_check_degree) := by
  refine fn_body (k := 0) hC.ent T.F_check_degree sc_check_degree fun A outer s H E hr hgd => ?_
  have hN := (sc_check_degree).nd
  have tk : Takes (cxOf (L2.CX P w) P w K mg base N_check_degree "check_degree" (defScope st_check_degree) T.a_check_degree (.ref (codeAt K T.a_check_degree)) A outer s H E) (fun cls d _ H => E cls d H) := takes_of rfl rfl rfl rfl
  have hp := passes_of (X := (cxOf (L2.CX P w) P w K mg base N_check_degree "check_degree" (defScope st_check_degree) T.a_check_degree (.ref (codeAt K T.a_check_degree)) A outer s H E)) rfl
  have hu := room_u hr
  have hu64 := room_v hr
  exact (ss_one (ss_if (sb_cmp ok_gt (se_var 0) (se_glI rfl T.MOST_WHOLE)) (ss_one (ss_raise1 T.x_TooGreat hr rfl tk (by rw [hC.cls]; rfl) (se_glI rfl T.MOST_WHOLE) rfl T.g_TooGreat)) ss_nil))

abbrev st_common_degree : Stmt := top 36
def N_common_degree : List Str := ["one", "other", "degree", "near", "far"]
theorem sc_common_degree : FnScope N_common_degree ["one", "other"] (defScope st_common_degree) := ⟨rfl, rfl, rfl, by decide +kernel, rfl, by decide +kernel, by decide +kernel⟩
theorem bd_common_degree {P : Program} {w : World} {K : PySem.W.Frag} {mg : Str → Option Value} {base : Heap} (T : Facts P w K mg base) : Binds K T.fd_common_degree ["one", "other"] [] :=
  T.F_common_degree.bindsN fun _ _ _ _ _ _ us hl => match us, hl with | [_, _], _ => rfl
def b_common_degree : S :=
 (sSeq (sPar 3 4 (eBin oSub (eUn oLen (eBin oIx (eVar 0) (eVal (.int 0)))) (eVal (.int 1))) (eBin oSub (eUn oLen (eBin oIx (eVar 1) (eVal (.int 0)))) (eVal (.int 1))))
 (sSeq (sAsg 2 (eBin oDiv (eBin oMul (eVar 3) (eVar 4)) (eBin oGcd (eVar 3) (eVar 4))))
 (sSeq (sExpr (eCall m_check_degree [(eVar 2)]))
 (sRetV 2))))
def m_common_degree : Fn := fnOf 2 5 b_common_degree
theorem g_common_degree {P : Program} {w : World} {K : PySem.W.Frag} {mg : Str → Option Value} {base : Heap} {C : Cs} (T : Facts P w K mg base) (hC : OkC T C) : FnG P w K mg base 2 T.a_common_degree T.fd_common_degree ["one", "other"] (spF C m_common_degree) := by
  refine fn_body (k := 1) hC.ent T.F_common_degree sc_common_degree fun A outer s H E hr hgd => ?_
  have hN := (sc_common_degree).nd
  have tk : Takes (cxOf (L2.CX P w) P w K mg base N_common_degree "common_degree" (defScope st_common_degree) T.a_common_degree (.ref (codeAt K T.a_common_degree)) A outer s H E) (fun cls d _ H => E cls d H) := takes_of rfl rfl rfl rfl
  have hp := passes_of (X := (cxOf (L2.CX P w) P w K mg base N_common_degree "common_degree" (defScope st_common_degree) T.a_common_degree (.ref (codeAt K T.a_common_degree)) A outer s H E)) rfl
  have hu := room_u hr
  have hu64 := room_v hr
  exact (ss_cons (ss_par (i := 3) (j := 4) rfl hN (se_op ok_sub (se_b1 (c_len) rfl T.len (by decide +kernel) (se_ix hu (se_var 0) se_int)) se_int) (se_op ok_sub (se_b1 (c_len) rfl T.len (by decide +kernel) (se_ix hu (se_var 1) se_int)) se_int))
 (ss_cons (ss_set (i := 2) hN (se_op ok_div (se_op ok_mul (se_var 3) (se_var 4)) (se_g2 c_gcd rfl T.gcd (se_var 3) (se_var 4))))
 (ss_cons (ss_expr (se_call ((g_check_degree T hC).mono (by decide)) hr hgd rfl T.g_check_degree T.k_check_degree (bd_check_degree T) tk (sa_cons (se_var 2) sa_nil)))
 (ss_one (ss_retV (i := 2))))))

abbrev st_times_so : Stmt := top 20
def N_times_so : List Str := ["one", "other", "found", "near", "first", "far", "second"]
theorem sc_times_so : FnScope N_times_so ["one", "other"] (defScope st_times_so) := ⟨rfl, rfl, rfl, by decide +kernel, rfl, by decide +kernel, by decide +kernel⟩
theorem bd_times_so {P : Program} {w : World} {K : PySem.W.Frag} {mg : Str → Option Value} {base : Heap} (T : Facts P w K mg base) : Binds K T.fd_times_so ["one", "other"] [] :=
  T.F_times_so.bindsN fun _ _ _ _ _ _ us hl => match us, hl with | [_, _], _ => rfl
def b_times_so : S :=
 (sSeq (sIf (eOr (eBin oEq (eVar 0) (eLst [])) (eBin oEq (eVar 1) (eLst [])))
 (sRet (eLst []))
 sPass)
 (sSeq (sAsg 2 (eBin oMul (eLst [(eVal (.int 0))]) (eBin oSub (eBin oAdd (eUn oLen (eVar 0)) (eUn oLen (eVar 1))) (eVal (.int 1)))))
 (sSeq (sFor (iEnum (iSeq (eVar 0))) (.two (.v 3) (.v 4))
 (sIf (eBin oNe (eVar 4) (eVal (.int 0)))
 (sFor (iEnum (iSeq (eVar 1))) (.two (.v 5) (.v 6))
 (sSetIx 2 (eBin oAdd (eVar 3) (eVar 5)) (eBin oAdd (eBin oIx (eVar 2) (eBin oAdd (eVar 3) (eVar 5))) (eBin oMul (eVar 4) (eVar 6)))))
 sPass))
 (sRetV 2))))
def m_times_so : Fn := fnOf 2 7 b_times_so
theorem g_times_so {P : Program} {w : World} {K : PySem.W.Frag} {mg : Str → Option Value} {base : Heap} {C : Cs} (T : Facts P w K mg base) (hC : OkC T C) : FnG P w K mg base 1 T.a_times_so T.fd_times_so ["one", "other"] (spF C m_times_so) := by
  refine fn_body (k := 0) hC.ent T.F_times_so sc_times_so fun A outer s H E hr hgd => ?_
  have hN := (sc_times_so).nd
  have tk : Takes (cxOf (L2.CX P w) P w K mg base N_times_so "times_so" (defScope st_times_so) T.a_times_so (.ref (codeAt K T.a_times_so)) A outer s H E) (fun cls d _ H => E cls d H) := takes_of rfl rfl rfl rfl
  have hp := passes_of (X := (cxOf (L2.CX P w) P w K mg base N_times_so "times_so" (defScope st_times_so) T.a_times_so (.ref (codeAt K T.a_times_so)) A outer s H E)) rfl
  have hu := room_u hr
  have hu64 := room_v hr
  exact (ss_cons (ss_if (sb_w (sbw_or (sb_cmp (ok_eq hu64) (se_var 0) (se_lst sa_nil)) (sbw_one_or (sb_cmp (ok_eq hu64) (se_var 1) (se_lst sa_nil))))) (ss_one (ss_ret (se_lst sa_nil))) ss_nil)
 (ss_cons (ss_set (i := 2) hN (se_op ok_mul (se_lst (sa_cons se_int sa_nil)) (se_op ok_sub (se_op ok_add (se_b1 (c_len) rfl T.len (by decide +kernel) (se_var 0)) (se_b1 (c_len) rfl T.len (by decide +kernel) (se_var 1))) se_int)))
 (ss_cons (ss_for hp rfl (si_enum rfl T.enumerate (se_var 0)) (st_two rfl (st_v 3 hN) (st_v 4 hN)) (ss_one (ss_if (sb_cmp (ok_ne hu64) (se_var 4) se_int) (ss_one (ss_for hp rfl (si_enum rfl T.enumerate (se_var 1)) (st_two rfl (st_v 5 hN) (st_v 6 hN)) (ss_one (ss_setIx (i := 2) (se_op ok_add (se_ix hu (se_var 2) (se_op ok_add (se_var 3) (se_var 5))) (se_op ok_mul (se_var 4) (se_var 6))) (hg := pg_sub (pe_var rfl (by first | exact Or.inl rfl | exact Or.inr (Or.inl rfl))) (se_op ok_add (se_var 3) (se_var 5)) (pset_or set_list (set_dict (u1 hu)))))))) ss_nil)))
 (ss_one (ss_retV (i := 2))))))

abbrev st_times : Stmt := top 22
def N_times : List Str := ["one", "other"]
theorem sc_times : FnScope N_times ["one", "other"] (defScope st_times) := ⟨rfl, rfl, rfl, by decide +kernel, rfl, by decide +kernel, by decide +kernel⟩
theorem bd_times {P : Program} {w : World} {K : PySem.W.Frag} {mg : Str → Option Value} {base : Heap} (T : Facts P w K mg base) : Binds K T.fd_times ["one", "other"] [] :=
  T.F_times.bindsN fun _ _ _ _ _ _ us hl => match us, hl with | [_, _], _ => rfl
def b_times : S :=
 (sRet (eCall m_reduced [(eCall m_times_so [(eBin oIx (eVar 0) (eVal (.int 0))), (eBin oIx (eVar 1) (eVal (.int 0)))]), (eBin oMul (eBin oIx (eVar 0) (eVal (.int 1))) (eBin oIx (eVar 1) (eVal (.int 1))))]))
def m_times : Fn := fnOf 2 2 b_times
theorem g_times {P : Program} {w : World} {K : PySem.W.Frag} {mg : Str → Option Value} {base : Heap} {C : Cs} (T : Facts P w K mg base) (hC : OkC T C) : FnG P w K mg base 2 T.a_times T.fd_times ["one", "other"] (spF C m_times) := by
  refine fn_body (k := 1) hC.ent T.F_times sc_times fun A outer s H E hr hgd => ?_
  have hN := (sc_times).nd
  have tk : Takes (cxOf (L2.CX P w) P w K mg base N_times "times" (defScope st_times) T.a_times (.ref (codeAt K T.a_times)) A outer s H E) (fun cls d _ H => E cls d H) := takes_of rfl rfl rfl rfl
  have hp := passes_of (X := (cxOf (L2.CX P w) P w K mg base N_times "times" (defScope st_times) T.a_times (.ref (codeAt K T.a_times)) A outer s H E)) rfl
  have hu := room_u hr
  have hu64 := room_v hr
  exact (ss_one (ss_ret (se_call ((g_reduced T hC).mono (by decide)) hr hgd rfl T.g_reduced T.k_reduced (bd_reduced T) tk (sa_cons (se_call ((g_times_so T hC).mono (by decide)) hr hgd rfl T.g_times_so T.k_times_so (bd_times_so T) tk (sa_cons (se_ix hu (se_var 0) se_int) (sa_cons (se_ix hu (se_var 1) se_int) sa_nil))) (sa_cons (se_op ok_mul (se_ix hu (se_var 0) se_int) (se_ix hu (se_var 1) se_int)) sa_nil)))))

abbrev st_powers_of : Stmt := top 35
def N_powers_of : List Str := ["poly", "many", "turn", "found", "here"]
theorem sc_powers_of : FnScope N_powers_of ["poly", "many"] (defScope st_powers_of) := ⟨rfl, rfl, rfl, by decide +kernel, rfl, by decide +kernel, by decide +kernel⟩
theorem bd_powers_of {P : Program} {w : World} {K : PySem.W.Frag} {mg : Str → Option Value} {base : Heap} (T : Facts P w K mg base) : Binds K T.fd_powers_of ["poly", "many"] [] :=
  T.F_powers_of.bindsN fun _ _ _ _ _ _ us hl => match us, hl with | [_, _], _ => rfl
def b_powers_of : S :=
 (sSeq (sPar 3 4 (eLst []) (eTup [(eLst [(eVal (.int 1))]), (eVal (.int 1))]))
 (sSeq (sFor (iRange1 (eVar 1)) (.v 2)
 (sSeq (sFreeze 4) (sSeq (sAsg 4 (eCall m_times [(eVar 4), (eVar 0)]))
 (sSeq (sFreeze 4) (sMutL 3 mAppend (eVar 4))))))
 (sRetV 3)))
def m_powers_of : Fn := fnOf 2 5 b_powers_of
theorem g_powers_of {P : Program} {w : World} {K : PySem.W.Frag} {mg : Str → Option Value} {base : Heap} {C : Cs} (T : Facts P w K mg base) (hC : OkC T C) : FnG P w K mg base 3 T.a_powers_of T.fd_powers_of ["poly", "many"] (spF C m_powers_of) := by
  refine fn_body (k := 2) hC.ent T.F_powers_of sc_powers_of fun A outer s H E hr hgd => ?_
  have hN := (sc_powers_of).nd
  have tk : Takes (cxOf (L2.CX P w) P w K mg base N_powers_of "powers_of" (defScope st_powers_of) T.a_powers_of (.ref (codeAt K T.a_powers_of)) A outer s H E) (fun cls d _ H => E cls d H) := takes_of rfl rfl rfl rfl
  have hp := passes_of (X := (cxOf (L2.CX P w) P w K mg base N_powers_of "powers_of" (defScope st_powers_of) T.a_powers_of (.ref (codeAt K T.a_powers_of)) A outer s H E)) rfl
  have hu := room_u hr
  have hu64 := room_v hr
  exact (ss_cons (ss_par (i := 3) (j := 4) rfl hN (se_lst sa_nil) (se_tup (sa_cons (se_lst (sa_cons se_int sa_nil)) (sa_cons se_int sa_nil))))
 (ss_cons (ss_for hp rfl (si_range1 rfl T.range (se_var 1)) (st_v 2 hN) (ss_freeze (i := 4) (ss_cons (ss_set (i := 4) hN (se_call ((g_times T hC).mono (by decide)) hr hgd rfl T.g_times T.k_times (bd_times T) tk (sa_cons (se_var 4) (sa_cons (se_var 0) sa_nil))))
 (ss_freeze (i := 4) (ss_one (ss_append (i := 3) (se_var 4)))))))
 (ss_one (ss_retV (i := 3)))))

abbrev st_all_powers : Stmt := top 37
def N_all_powers : List Str := ["one", "other", "degree"]
theorem sc_all_powers : FnScope N_all_powers ["one", "other"] (defScope st_all_powers) := ⟨rfl, rfl, rfl, by decide +kernel, rfl, by decide +kernel, by decide +kernel⟩
theorem bd_all_powers {P : Program} {w : World} {K : PySem.W.Frag} {mg : Str → Option Value} {base : Heap} (T : Facts P w K mg base) : Binds K T.fd_all_powers ["one", "other"] [] :=
  T.F_all_powers.bindsN fun _ _ _ _ _ _ us hl => match us, hl with | [_, _], _ => rfl
def b_all_powers : S :=
 (sSeq (sAsg 2 (eCall m_common_degree [(eVar 0), (eVar 1)]))
 (sRet (eBin oAdd (eBin oAdd (eLst [(eTup [(eLst [(eVal (.int 1))]), (eVal (.int 1))])]) (eCall m_powers_of [(eVar 0), (eBin oDiv (eVar 2) (eBin oSub (eUn oLen (eBin oIx (eVar 0) (eVal (.int 0)))) (eVal (.int 1))))])) (eCall m_powers_of [(eVar 1), (eBin oDiv (eVar 2) (eBin oSub (eUn oLen (eBin oIx (eVar 1) (eVal (.int 0)))) (eVal (.int 1))))]))))
def m_all_powers : Fn := fnOf 2 3 b_all_powers
theorem g_all_powers {P : Program} {w : World} {K : PySem.W.Frag} {mg : Str → Option Value} {base : Heap} {C : Cs} (T : Facts P w K mg base) (hC : OkC T C) : FnG P w K mg base 4 T.a_all_powers T.fd_all_powers ["one", "other"] (spF C m_all_powers) := by
  refine fn_body (k := 3) hC.ent T.F_all_powers sc_all_powers fun A outer s H E hr hgd => ?_
  have hN := (sc_all_powers).nd
  have tk : Takes (cxOf (L2.CX P w) P w K mg base N_all_powers "all_powers" (defScope st_all_powers) T.a_all_powers (.ref (codeAt K T.a_all_powers)) A outer s H E) (fun cls d _ H => E cls d H) := takes_of rfl rfl rfl rfl
  have hp := passes_of (X := (cxOf (L2.CX P w) P w K mg base N_all_powers "all_powers" (defScope st_all_powers) T.a_all_powers (.ref (codeAt K T.a_all_powers)) A outer s H E)) rfl
  have hu := room_u hr
  have hu64 := room_v hr
  exact (ss_cons (ss_set (i := 2) hN (se_call ((g_common_degree T hC).mono (by decide)) hr hgd rfl T.g_common_degree T.k_common_degree (bd_common_degree T) tk (sa_cons (se_var 0) (sa_cons (se_var 1) sa_nil))))
 (ss_one (ss_ret (se_op ok_add (se_op ok_add (se_lst (sa_cons (se_tup (sa_cons (se_lst (sa_cons se_int sa_nil)) (sa_cons se_int sa_nil))) sa_nil)) (se_call ((g_powers_of T hC).mono (by decide)) hr hgd rfl T.g_powers_of T.k_powers_of (bd_powers_of T) tk (sa_cons (se_var 0) (sa_cons (se_op ok_div (se_var 2) (se_op ok_sub (se_b1 (c_len) rfl T.len (by decide +kernel) (se_ix hu (se_var 0) se_int)) se_int)) sa_nil)))) (se_call ((g_powers_of T hC).mono (by decide)) hr hgd rfl T.g_powers_of T.k_powers_of (bd_powers_of T) tk (sa_cons (se_var 1) (sa_cons (se_op ok_div (se_var 2) (se_op ok_sub (se_b1 (c_len) rfl T.len (by decide +kernel) (se_ix hu (se_var 1) se_int)) se_int)) sa_nil)))))))

abbrev st_cleared : Stmt := top 39
def N_cleared : List Str := ["row", "place", "other", "whole", "near", "far", "number", "item"]
theorem sc_cleared : FnScope N_cleared ["row", "place", "other"] (defScope st_cleared) := ⟨rfl, rfl, rfl, by decide +kernel, rfl, by decide +kernel, by decide +kernel⟩
theorem bd_cleared {P : Program} {w : World} {K : PySem.W.Frag} {mg : Str → Option Value} {base : Heap} (T : Facts P w K mg base) : Binds K T.fd_cleared ["row", "place", "other"] [] :=
  T.F_cleared.bindsN fun _ _ _ _ _ _ us hl => match us, hl with | [_, _, _], _ => rfl
def b_cleared : S :=
 (sSeq (sAsg 3 (eBin oGcd (eBin oIx (eVar 0) (eVar 1)) (eBin oIx (eVar 2) (eVar 1))))
 (sSeq (sPar 4 5 (eBin oDiv (eBin oIx (eVar 2) (eVar 1)) (eVar 3)) (eBin oDiv (eBin oIx (eVar 0) (eVar 1)) (eVar 3)))
 (sRet (eComp [6, 7] (iZip2 (eVar 0) (eVar 2)) (.two (.v 6) (.v 7)) none (eBin oSub (eBin oMul (eVar 4) (eVar 6)) (eBin oMul (eVar 5) (eVar 7)))))))
def m_cleared : Fn := fnOf 3 8 b_cleared
theorem g_cleared {P : Program} {w : World} {K : PySem.W.Frag} {mg : Str → Option Value} {base : Heap} {C : Cs} (T : Facts P w K mg base) (hC : OkC T C) : FnG P w K mg base 1 T.a_cleared T.fd_cleared ["row", "place", "other"] (spF C m_cleared) := by
  refine fn_body (k := 0) hC.ent T.F_cleared sc_cleared fun A outer s H E hr hgd => ?_
  have hN := (sc_cleared).nd
  have tk : Takes (cxOf (L2.CX P w) P w K mg base N_cleared "cleared" (defScope st_cleared) T.a_cleared (.ref (codeAt K T.a_cleared)) A outer s H E) (fun cls d _ H => E cls d H) := takes_of rfl rfl rfl rfl
  have hp := passes_of (X := (cxOf (L2.CX P w) P w K mg base N_cleared "cleared" (defScope st_cleared) T.a_cleared (.ref (codeAt K T.a_cleared)) A outer s H E)) rfl
  have hu := room_u hr
  have hu64 := room_v hr
  exact (ss_cons (ss_set (i := 3) hN (se_g2 c_gcd rfl T.gcd (se_ix hu (se_var 0) (se_var 1)) (se_ix hu (se_var 2) (se_var 1))))
 (ss_cons (ss_parC (i := 4) (j := 5) rfl hN (se_op ok_div (se_ix hu (se_var 2) (se_var 1)) (se_var 3)) (se_op ok_div (se_ix hu (se_var 0) (se_var 1)) (se_var 3)))
 (ss_one (ss_ret (se_comp (own := [("number", 6), ("item", 7)]) rfl hN (sic_of (si_zip2 rfl T.zip (se_var 0) (se_var 2))) (blkOk_by (by first | rfl | kernel_rfl)) (fun _ _ _ _ _ => (st_two rfl (st_v 6 hN) (st_v 7 hN))) (fun _ _ _ _ _ => (se_op ok_sub (se_op ok_mul (se_var 4) (se_var 6)) (se_op ok_mul (se_var 5) (se_var 7)))))))))

abbrev st_whole_numbers : Stmt := top 38
def N_whole_numbers : List Str := ["rows", "found", "row", "whole", "number"]
theorem sc_whole_numbers : FnScope N_whole_numbers ["rows"] (defScope st_whole_numbers) := ⟨rfl, rfl, rfl, by decide +kernel, rfl, by decide +kernel, by decide +kernel⟩
theorem bd_whole_numbers {P : Program} {w : World} {K : PySem.W.Frag} {mg : Str → Option Value} {base : Heap} (T : Facts P w K mg base) : Binds K T.fd_whole_numbers ["rows"] [] :=
  T.F_whole_numbers.bindsN fun _ _ _ _ _ _ us hl => match us, hl with | [_], _ => rfl
def b_whole_numbers : S :=
 (sSeq (sAsg 1 (eLst []))
 (sSeq (sFor (iSeq (eVar 0)) (.v 2)
 (sSeq (sAsg 3 (eVal (.int 0)))
 (sSeq (sFor (iSeq (eVar 2)) (.v 4)
 (sAsg 3 (eBin oGcd (eVar 3) (eVar 4))))
 (sMutL 1 mAppend (eIf (eBin oGt (eVar 3) (eVal (.int 1))) (eComp [4] (iSeqB (eVar 2)) (.v 4) none (eBin oDiv (eVar 4) (eVar 3))) (eVar 2))))))
 (sRetV 1)))
def m_whole_numbers : Fn := fnOf 1 5 b_whole_numbers
theorem g_whole_numbers {P : Program} {w : World} {K : PySem.W.Frag} {mg : Str → Option Value} {base : Heap} {C : Cs} (T : Facts P w K mg base) (hC : OkC T C) : FnG P w K mg base 1 T.a_whole_numbers T.fd_whole_numbers ["rows"] (spF C m_whole_numbers) := by
  refine fn_body (k := 0) hC.ent T.F_whole_numbers sc_whole_numbers fun A outer s H E hr hgd => ?_
  have hN := (sc_whole_numbers).nd
  have tk : Takes (cxOf (L2.CX P w) P w K mg base N_whole_numbers "whole_numbers" (defScope st_whole_numbers) T.a_whole_numbers (.ref (codeAt K T.a_whole_numbers)) A outer s H E) (fun cls d _ H => E cls d H) := takes_of rfl rfl rfl rfl
  have hp := passes_of (X := (cxOf (L2.CX P w) P w K mg base N_whole_numbers "whole_numbers" (defScope st_whole_numbers) T.a_whole_numbers (.ref (codeAt K T.a_whole_numbers)) A outer s H E)) rfl
  have hu := room_u hr
  have hu64 := room_v hr
  exact (ss_cons (ss_set (i := 1) hN (se_lst sa_nil))
 (ss_cons (ss_for hp rfl (si_seq (se_var 0)) (st_v 2 hN) (ss_cons (ss_set (i := 3) hN se_int)
 (ss_cons (ss_for hp rfl (si_seq (se_var 2)) (st_v 4 hN) (ss_one (ss_set (i := 3) hN (se_g2 c_gcd rfl T.gcd (se_var 3) (se_var 4)))))
 (ss_one (ss_append (i := 1) (se_if (sb_cmp ok_gt (se_var 3) se_int) (se_comp (own := [("number", 4)]) rfl hN (sic_seq (se_var 2)) (blkOk_by (by first | rfl | kernel_rfl)) (fun _ _ _ _ _ => (st_v 4 hN)) (fun _ _ _ _ _ => (se_op ok_div (se_var 4) (se_var 3)))) (se_var 2)))))))
 (ss_one (ss_retV (i := 1)))))

abbrev st_eliminated : Stmt := top 40
def N_eliminated : List Str := ["polys", "degree", "left", "places", "place", "index", "poly", "mark", "able", "rest", "row"]
theorem sc_eliminated : FnScope N_eliminated ["polys", "degree"] (defScope st_eliminated) := ⟨rfl, rfl, rfl, by decide +kernel, rfl, by decide +kernel, by decide +kernel⟩
theorem bd_eliminated {P : Program} {w : World} {K : PySem.W.Frag} {mg : Str → Option Value} {base : Heap} (T : Facts P w K mg base) : Binds K T.fd_eliminated ["polys", "degree"] [] :=
  T.F_eliminated.bindsN fun _ _ _ _ _ _ us hl => match us, hl with | [_, _], _ => rfl
def b_eliminated : S :=
 (sSeq (sAsg 2 (eLst []))
 (sSeq (sFor (iEnum (iSeq (eVar 0))) (.two (.v 5) (.v 6))
 (sSeq (sAsg 7 (eBin oMul (eLst [(eVal (.int 0))]) (eUn oLen (eVar 0))))
 (sSeq (sSetIx 7 (eVar 5) (eBin oIx (eVar 6) (eVal (.int 1))))
 (sMutL 2 mAppend (eBin oAdd (eBin oAdd (eBin oIx (eVar 6) (eVal (.int 0))) (eBin oMul (eLst [(eVal (.int 0))]) (eBin oSub (eBin oAdd (eVar 1) (eVal (.int 1))) (eUn oLen (eBin oIx (eVar 6) (eVal (.int 0))))))) (eVar 7))))))
 (sSeq (sAsg 3 (eLst []))
 (sSeq (sFor (iRevR1 (eBin oAdd (eVar 1) (eVal (.int 1)))) (.v 4)
 (sSeq (sAsg 8 (eComp [10] (iSeqB (eVar 2)) (.v 10) (some (eBin oNe (eBin oIx (eVar 10) (eVar 4)) (eVal (.int 0)))) (eVar 10)))
 (sIf (eBin oNe (eVar 8) (eLst []))
 (sSeq (sMutL 3 mAppend (eVar 4))
 (sSeq (sAsg 9 (eComp [10] (iSeqB (eVar 2)) (.v 10) (some (eBin oEq (eBin oIx (eVar 10) (eVar 4)) (eVal (.int 0)))) (eVar 10)))
 (sAsg 2 (eCall m_whole_numbers [(eBin oAdd (eVar 9) (eComp [10] (iSeqB (eSlice (eVar 8) (some (eVal (.int 1))) none)) (.v 10) none (eCall m_cleared [(eVar 10), (eVar 4), (eBin oIx (eVar 8) (eVal (.int 0)))])))]))))
 sPass)))
 (sSeq (sFreeze 3) (sRet (eTup [(eVar 3), (eIf (eBin oNe (eVar 2) (eLst [])) (eSlice (eBin oIx (eVar 2) (eVal (.int 0))) (some (eBin oAdd (eVar 1) (eVal (.int 1)))) none) (eVal .non))])))))))
def m_eliminated : Fn := fnOf 2 11 b_eliminated
theorem g_eliminated {P : Program} {w : World} {K : PySem.W.Frag} {mg : Str → Option Value} {base : Heap} {C : Cs} (T : Facts P w K mg base) (hC : OkC T C) : FnG P w K mg base 2 T.a_eliminated T.fd_eliminated ["polys", "degree"] (spF C m_eliminated) := by
  refine fn_body (k := 1) hC.ent T.F_eliminated sc_eliminated fun A outer s H E hr hgd => ?_
  have hN := (sc_eliminated).nd
  have tk : Takes (cxOf (L2.CX P w) P w K mg base N_eliminated "eliminated" (defScope st_eliminated) T.a_eliminated (.ref (codeAt K T.a_eliminated)) A outer s H E) (fun cls d _ H => E cls d H) := takes_of rfl rfl rfl rfl
  have hp := passes_of (X := (cxOf (L2.CX P w) P w K mg base N_eliminated "eliminated" (defScope st_eliminated) T.a_eliminated (.ref (codeAt K T.a_eliminated)) A outer s H E)) rfl
  have hu := room_u hr
  have hu64 := room_v hr
  exact (ss_cons (ss_set (i := 2) hN (se_lst sa_nil))
 (ss_cons (ss_for hp rfl (si_enum rfl T.enumerate (se_var 0)) (st_two rfl (st_v 5 hN) (st_v 6 hN)) (ss_cons (ss_set (i := 7) hN (se_op ok_mul (se_lst (sa_cons se_int sa_nil)) (se_b1 (c_len) rfl T.len (by decide +kernel) (se_var 0))))
 (ss_cons (ss_setIx (i := 7) (se_ix hu (se_var 6) se_int) (hg := pg_sub (pe_var rfl (by first | exact Or.inl rfl | exact Or.inr (Or.inl rfl))) (se_var 5) (pset_or set_list (set_dict (u1 hu)))))
 (ss_one (ss_append (i := 2) (se_op ok_add (se_op ok_add (se_ix hu (se_var 6) se_int) (se_op ok_mul (se_lst (sa_cons se_int sa_nil)) (se_op ok_sub (se_op ok_add (se_var 1) se_int) (se_b1 (c_len) rfl T.len (by decide +kernel) (se_ix hu (se_var 6) se_int))))) (se_var 7)))))))
 (ss_cons (ss_set (i := 3) hN (se_lst sa_nil))
 (ss_cons (ss_for hp rfl (si_revR1 rfl T.reversed rfl T.range (se_op ok_add (se_var 1) se_int)) (st_v 4 hN) (ss_cons (ss_set (i := 8) hN (se_compIf (own := [("row", 10)]) rfl hN (sic_seq (se_var 2)) (blkOk_by (by first | rfl | kernel_rfl)) (fun _ _ _ _ _ => (st_v 10 hN)) (fun _ _ _ _ _ => (sb_cmp (ok_ne hu64) (se_ix hu (se_var 10) (se_var 4)) se_int)) (fun _ _ _ _ _ => (se_var 10))))
 (ss_one (ss_if (sb_cmp (ok_ne hu64) (se_var 8) (se_lst sa_nil)) (ss_cons (ss_append (i := 3) (se_var 4))
 (ss_cons (ss_setCompIf (i := 9) (own := [("row", 10)]) rfl hN (sic_seq (se_var 2)) (blkOk_by (by first | rfl | kernel_rfl)) (fun _ _ _ _ _ => (st_v 10 hN)) (fun _ _ _ _ _ => (sb_cmp (ok_eq hu64) (se_ix hu (se_var 10) (se_var 4)) se_int)) (fun _ _ _ _ _ => (se_var 10)) (by first | rfl | kernel_rfl))
 (ss_one (ss_set (i := 2) hN (se_call ((g_whole_numbers T hC).mono (by decide)) hr hgd rfl T.g_whole_numbers T.k_whole_numbers (bd_whole_numbers T) tk (sa_cons (se_op ok_add (se_var 9) (se_comp (own := [("row", 10)]) rfl hN (sic_seq (se_slice (se_var 8) (so_some se_int) so_none)) (blkOk_by (by first | rfl | kernel_rfl)) (fun _ _ _ _ _ => (st_v 10 hN)) (fun _ _ _ _ _ => (se_call ((g_cleared T hC).mono (by decide)) hr hgd rfl T.g_cleared T.k_cleared (bd_cleared T) LamX.takes0 (sa_cons (se_var 10) (sa_cons (se_var 4) (sa_cons (se_ix hu (se_var 8) se_int) sa_nil))))))) sa_nil)))))) ss_nil))))
 (ss_freeze (i := 3) (ss_one (ss_ret (se_tup (sa_cons (se_var 3) (sa_cons (se_if (sb_cmp (ok_ne hu64) (se_var 2) (se_lst sa_nil)) (se_slice (se_ix hu (se_var 2) se_int) (so_some (se_op ok_add (se_var 1) se_int)) so_none) se_non) sa_nil))))))))))

abbrev st_from_numbers : Stmt := top 30
def N_from_numbers : List Str := ["numbers", "below", "number"]
theorem sc_from_numbers : FnScope N_from_numbers ["numbers"] (defScope st_from_numbers) := ⟨rfl, rfl, rfl, by decide +kernel, rfl, by decide +kernel, by decide +kernel⟩
theorem bd_from_numbers {P : Program} {w : World} {K : PySem.W.Frag} {mg : Str → Option Value} {base : Heap} (T : Facts P w K mg base) : Binds K T.fd_from_numbers ["numbers"] [] :=
  T.F_from_numbers.bindsN fun _ _ _ _ _ _ us hl => match us, hl with | [_], _ => rfl
def b_from_numbers : S :=
 (sSeq (sAsg 1 (eVal (.int 1)))
 (sSeq (sFor (iSeq (eVar 0)) (.v 2)
 (sAsg 1 (eBin oMul (eVar 1) (eBin oIx (eVar 2) (eVal (.int 1))))))
 (sSeq (sFreeze 1) (sRet (eCall m_reduced [(eComp [2] (iSeqB (eVar 0)) (.v 2) none (eBin oMul (eBin oIx (eVar 2) (eVal (.int 0))) (eBin oDiv (eVar 1) (eBin oIx (eVar 2) (eVal (.int 1)))))), (eVar 1)])))))
def m_from_numbers : Fn := fnOf 1 3 b_from_numbers
theorem g_from_numbers {P : Program} {w : World} {K : PySem.W.Frag} {mg : Str → Option Value} {base : Heap} {C : Cs} (T : Facts P w K mg base) (hC : OkC T C) : FnG P w K mg base 2 T.a_from_numbers T.fd_from_numbers ["numbers"] (spF C m_from_numbers) := by
  refine fn_body (k := 1) hC.ent T.F_from_numbers sc_from_numbers fun A outer s H E hr hgd => ?_
  have hN := (sc_from_numbers).nd
  have tk : Takes (cxOf (L2.CX P w) P w K mg base N_from_numbers "from_numbers" (defScope st_from_numbers) T.a_from_numbers (.ref (codeAt K T.a_from_numbers)) A outer s H E) (fun cls d _ H => E cls d H) := takes_of rfl rfl rfl rfl
  have hp := passes_of (X := (cxOf (L2.CX P w) P w K mg base N_from_numbers "from_numbers" (defScope st_from_numbers) T.a_from_numbers (.ref (codeAt K T.a_from_numbers)) A outer s H E)) rfl
  have hu := room_u hr
  have hu64 := room_v hr
  exact (ss_cons (ss_set (i := 1) hN se_int)
 (ss_cons (ss_for hp rfl (si_seq (se_var 0)) (st_v 2 hN) (ss_one (ss_set (i := 1) hN (se_op ok_mul (se_var 1) (se_ix hu (se_var 2) se_int)))))
 (ss_freeze (i := 1) (ss_one (ss_ret (se_call ((g_reduced T hC).mono (by decide)) hr hgd rfl T.g_reduced T.k_reduced (bd_reduced T) tk (sa_cons (se_comp (own := [("number", 2)]) rfl hN (sic_seq (se_var 0)) (blkOk_by (by first | rfl | kernel_rfl)) (fun _ _ _ _ _ => (st_v 2 hN)) (fun _ _ _ _ _ => (se_op ok_mul (se_ix hu (se_var 2) se_int) (se_op ok_div (se_var 1) (se_ix hu (se_var 2) se_int))))) (sa_cons (se_var 1) sa_nil))))))))

abbrev st_plain_poly : Stmt := top 25
def N_plain_poly : List Str := ["poly"]
theorem sc_plain_poly : FnScope N_plain_poly ["poly"] (defScope st_plain_poly) := ⟨rfl, rfl, rfl, by decide +kernel, rfl, by decide +kernel, by decide +kernel⟩
theorem bd_plain_poly {P : Program} {w : World} {K : PySem.W.Frag} {mg : Str → Option Value} {base : Heap} (T : Facts P w K mg base) : Binds K T.fd_plain_poly ["poly"] [] :=
  T.F_plain_poly.bindsN fun _ _ _ _ _ _ us hl => match us, hl with | [_], _ => rfl
def b_plain_poly : S :=
 (sRet (eCall m_reduced [(eBin oAdd (eLst [(eVal (.int 0))]) (eSlice (eBin oIx (eVar 0) (eVal (.int 0))) (some (eVal (.int 1))) none)), (eBin oIx (eBin oIx (eVar 0) (eVal (.int 0))) (eUn oNeg (eVal (.int 1))))]))
def m_plain_poly : Fn := fnOf 1 1 b_plain_poly
theorem g_plain_poly {P : Program} {w : World} {K : PySem.W.Frag} {mg : Str → Option Value} {base : Heap} {C : Cs} (T : Facts P w K mg base) (hC : OkC T C) : FnG P w K mg base 2 T.a_plain_poly T.fd_plain_poly ["poly"] (spF C m_plain_poly) := by
  refine fn_body (k := 1) hC.ent T.F_plain_poly sc_plain_poly fun A outer s H E hr hgd => ?_
  have hN := (sc_plain_poly).nd
  have tk : Takes (cxOf (L2.CX P w) P w K mg base N_plain_poly "plain_poly" (defScope st_plain_poly) T.a_plain_poly (.ref (codeAt K T.a_plain_poly)) A outer s H E) (fun cls d _ H => E cls d H) := takes_of rfl rfl rfl rfl
  have hp := passes_of (X := (cxOf (L2.CX P w) P w K mg base N_plain_poly "plain_poly" (defScope st_plain_poly) T.a_plain_poly (.ref (codeAt K T.a_plain_poly)) A outer s H E)) rfl
  have hu := room_u hr
  have hu64 := room_v hr
  exact (ss_one (ss_ret (se_call ((g_reduced T hC).mono (by decide)) hr hgd rfl T.g_reduced T.k_reduced (bd_reduced T) tk (sa_cons (se_op ok_add (se_lst (sa_cons se_int sa_nil)) (se_slice (se_ix hu (se_var 0) se_int) (so_some se_int) so_none)) (sa_cons (se_ix hu (se_ix hu (se_var 0) se_int) (se_neg se_int)) sa_nil)))))

abbrev st_put_in : Stmt := top 24
def N_put_in : List Str := ["outer", "inner", "number", "found", "shift", "below"]
theorem sc_put_in : FnScope N_put_in ["outer", "inner"] (defScope st_put_in) := ⟨rfl, rfl, rfl, by decide +kernel, rfl, by decide +kernel, by decide +kernel⟩
theorem bd_put_in {P : Program} {w : World} {K : PySem.W.Frag} {mg : Str → Option Value} {base : Heap} (T : Facts P w K mg base) : Binds K T.fd_put_in ["outer", "inner"] [] :=
  T.F_put_in.bindsN fun _ _ _ _ _ _ us hl => match us, hl with | [_, _], _ => rfl
def b_put_in : S :=
 (sSeq (sPar3 3 4 5 (eLst []) (eVal (.int 1)) (eBin oIx (eVar 0) (eVal (.int 1))))
 (sSeq (sFor (iRev (iSeq (eBin oIx (eVar 0) (eVal (.int 0))))) (.v 2)
 (sSeq (sFreeze 3) (sSeq (sAsg 3 (eIf (eBin oNe (eVar 3) (eLst [])) (eCall m_times_so [(eVar 3), (eBin oIx (eVar 1) (eVal (.int 0)))]) (eLst [(eVal (.int 0))])))
 (sSeq (sSetIx 3 (eVal (.int 0)) (eBin oAdd (eBin oIx (eVar 3) (eVal (.int 0))) (eBin oMul (eVar 2) (eVar 4))))
 (sPar 4 5 (eBin oMul (eVar 4) (eBin oIx (eVar 1) (eVal (.int 1)))) (eBin oMul (eBin oIx (eVar 0) (eVal (.int 1))) (eVar 4)))))))
 (sSeq (sFreeze 5) (sSeq (sFreeze 3) (sRet (eCall m_reduced [(eVar 3), (eVar 5)]))))))
def m_put_in : Fn := fnOf 2 6 b_put_in
theorem g_put_in {P : Program} {w : World} {K : PySem.W.Frag} {mg : Str → Option Value} {base : Heap} {C : Cs} (T : Facts P w K mg base) (hC : OkC T C) : FnG P w K mg base 2 T.a_put_in T.fd_put_in ["outer", "inner"] (spF C m_put_in) := by
  refine fn_body (k := 1) hC.ent T.F_put_in sc_put_in fun A outer s H E hr hgd => ?_
  have hN := (sc_put_in).nd
  have tk : Takes (cxOf (L2.CX P w) P w K mg base N_put_in "put_in" (defScope st_put_in) T.a_put_in (.ref (codeAt K T.a_put_in)) A outer s H E) (fun cls d _ H => E cls d H) := takes_of rfl rfl rfl rfl
  have hp := passes_of (X := (cxOf (L2.CX P w) P w K mg base N_put_in "put_in" (defScope st_put_in) T.a_put_in (.ref (codeAt K T.a_put_in)) A outer s H E)) rfl
  have hu := room_u hr
  have hu64 := room_v hr
  exact (ss_cons (ss_par3 (i := 3) (j := 4) (k := 5) rfl hN (se_lst sa_nil) se_int (se_ix hu (se_var 0) se_int))
 (ss_cons (ss_for hp rfl (si_rev rfl T.reversed (se_ix hu (se_var 0) se_int)) (st_v 2 hN) (ss_freeze (i := 3) (ss_cons (ss_set (i := 3) hN (se_if (sb_cmp (ok_ne hu64) (se_var 3) (se_lst sa_nil)) (se_call ((g_times_so T hC).mono (by decide)) hr hgd rfl T.g_times_so T.k_times_so (bd_times_so T) tk (sa_cons (se_var 3) (sa_cons (se_ix hu (se_var 1) se_int) sa_nil))) (se_lst (sa_cons se_int sa_nil))))
 (ss_cons (ss_setIx (i := 3) (se_op ok_add (se_ix hu (se_var 3) se_int) (se_op ok_mul (se_var 2) (se_var 4))) (hg := pg_sub (pe_var rfl (by first | exact Or.inl rfl | exact Or.inr (Or.inl rfl))) se_int (pset_or set_list (set_dict (u1 hu)))))
 (ss_one (ss_par (i := 4) (j := 5) rfl hN (se_op ok_mul (se_var 4) (se_ix hu (se_var 1) se_int)) (se_op ok_mul (se_ix hu (se_var 0) se_int) (se_var 4))))))))
 (ss_freeze (i := 5) (ss_freeze (i := 3) (ss_one (ss_ret (se_call ((g_reduced T hC).mono (by decide)) hr hgd rfl T.g_reduced T.k_reduced (bd_reduced T) tk (sa_cons (se_var 3) (sa_cons (se_var 5) sa_nil)))))))))

abbrev st_whole_so : Stmt := top 41
def N_whole_so : List Str := ["one", "other", "degree", "polys", "found", "many", "outer", "number"]
theorem sc_whole_so : FnScope N_whole_so ["one", "other"] (defScope st_whole_so) := ⟨rfl, rfl, rfl, by decide +kernel, rfl, by decide +kernel, by decide +kernel⟩
theorem bd_whole_so {P : Program} {w : World} {K : PySem.W.Frag} {mg : Str → Option Value} {base : Heap} (T : Facts P w K mg base) : Binds K T.fd_whole_so ["one", "other"] [] :=
  T.F_whole_so.bindsN fun _ _ _ _ _ _ us hl => match us, hl with | [_, _], _ => rfl
def b_whole_so : S :=
 (sSeq (sAsg 2 (eCall m_common_degree [(eVar 0), (eVar 1)]))
 (sSeq (sAsg 3 (eCall m_all_powers [(eVar 0), (eVar 1)]))
 (sSeq (sFreeze 3) (sSeq (sFreeze 2) (sSeq (sAsg 4 (eBin oIx (eCall m_eliminated [(eVar 3), (eVar 2)]) (eVal (.int 1))))
 (sSeq (sIf (eBin oIsB (eVar 4) (eVal .non))
 (sRet (eVal .non))
 sPass)
 (sSeq (sAsg 5 (eBin oDiv (eVar 2) (eBin oSub (eUn oLen (eBin oIx (eVar 0) (eVal (.int 0)))) (eVal (.int 1)))))
 (sSeq (sAsg 6 (eCall m_from_numbers [(eComp [7] (iSeqB (eBin oAdd (eLst [(eVal (.int 0))]) (eSlice (eVar 4) (some (eVal (.int 1))) (some (eBin oAdd (eVar 5) (eVal (.int 1))))))) (.v 7) none (eTup [(eVar 7), (eVal (.int 1))]))]))
 (sSeq (sFreeze 6) (sRet (eCall m_plain_poly [(eCall m_put_in [(eVar 6), (eVar 0)])])))))))))))
def m_whole_so : Fn := fnOf 2 8 b_whole_so
theorem g_whole_so {P : Program} {w : World} {K : PySem.W.Frag} {mg : Str → Option Value} {base : Heap} {C : Cs} (T : Facts P w K mg base) (hC : OkC T C) : FnG P w K mg base 5 T.a_whole_so T.fd_whole_so ["one", "other"] (spF C m_whole_so) := by
  refine fn_body (k := 4) hC.ent T.F_whole_so sc_whole_so fun A outer s H E hr hgd => ?_
  have hN := (sc_whole_so).nd
  have tk : Takes (cxOf (L2.CX P w) P w K mg base N_whole_so "whole_so" (defScope st_whole_so) T.a_whole_so (.ref (codeAt K T.a_whole_so)) A outer s H E) (fun cls d _ H => E cls d H) := takes_of rfl rfl rfl rfl
  have hp := passes_of (X := (cxOf (L2.CX P w) P w K mg base N_whole_so "whole_so" (defScope st_whole_so) T.a_whole_so (.ref (codeAt K T.a_whole_so)) A outer s H E)) rfl
  have hu := room_u hr
  have hu64 := room_v hr
  exact (ss_cons (ss_set (i := 2) hN (se_call ((g_common_degree T hC).mono (by decide)) hr hgd rfl T.g_common_degree T.k_common_degree (bd_common_degree T) tk (sa_cons (se_var 0) (sa_cons (se_var 1) sa_nil))))
 (ss_cons (ss_set (i := 3) hN (se_call ((g_all_powers T hC).mono (by decide)) hr hgd rfl T.g_all_powers T.k_all_powers (bd_all_powers T) tk (sa_cons (se_var 0) (sa_cons (se_var 1) sa_nil))))
 (ss_freeze (i := 3) (ss_freeze (i := 2) (ss_cons (ss_set (i := 4) hN (se_ix hu (se_call ((g_eliminated T hC).mono (by decide)) hr hgd rfl T.g_eliminated T.k_eliminated (bd_eliminated T) tk (sa_cons (se_var 3) (sa_cons (se_var 2) sa_nil))) se_int))
 (ss_cons (ss_if (sb_cmp ok_isN (se_var 4) se_non) (ss_one (ss_ret se_non)) ss_nil)
 (ss_cons (ss_set (i := 5) hN (se_op ok_div (se_var 2) (se_op ok_sub (se_b1 (c_len) rfl T.len (by decide +kernel) (se_ix hu (se_var 0) se_int)) se_int)))
 (ss_cons (ss_set (i := 6) hN (se_call ((g_from_numbers T hC).mono (by decide)) hr hgd rfl T.g_from_numbers T.k_from_numbers (bd_from_numbers T) tk (sa_cons (se_comp (own := [("number", 7)]) rfl hN (sic_seq (se_op ok_add (se_lst (sa_cons se_int sa_nil)) (se_slice (se_var 4) (so_some se_int) (so_some (se_op ok_add (se_var 5) se_int))))) (blkOk_by (by first | rfl | kernel_rfl)) (fun _ _ _ _ _ => (st_v 7 hN)) (fun _ _ _ _ _ => (se_tup (sa_cons (se_var 7) (sa_cons se_int sa_nil))))) sa_nil)))
 (ss_freeze (i := 6) (ss_one (ss_ret (se_call ((g_plain_poly T hC).mono (by decide)) hr hgd rfl T.g_plain_poly T.k_plain_poly (bd_plain_poly T) tk (sa_cons (se_call ((g_put_in T hC).mono (by decide)) hr hgd rfl T.g_put_in T.k_put_in (bd_put_in T) tk (sa_cons (se_var 6) (sa_cons (se_var 0) sa_nil))) sa_nil)))))))))))))

abbrev st_are_joined : Stmt := top 46
def N_are_joined : List Str := ["one", "other"]
theorem sc_are_joined : FnScope N_are_joined ["one", "other"] (defScope st_are_joined) := ⟨rfl, rfl, rfl, by decide +kernel, rfl, by decide +kernel, by decide +kernel⟩
theorem bd_are_joined {P : Program} {w : World} {K : PySem.W.Frag} {mg : Str → Option Value} {base : Heap} (T : Facts P w K mg base) : Binds K T.fd_are_joined ["one", "other"] [] :=
  T.F_are_joined.bindsN fun _ _ _ _ _ _ us hl => match us, hl with | [_, _], _ => rfl
def b_are_joined : S :=
 (sSeq (sExpr (eCall m_need_step [(eVar 0)]))
 (sSeq (sExpr (eCall m_need_step [(eVar 1)]))
 (sRet (eBin oNotB (eCall m_whole_so [(eCall m_as_poly [(eVar 0)]), (eCall m_as_poly [(eVar 1)])]) (eVal .non)))))
def m_are_joined : Fn := fnOf 2 2 b_are_joined
theorem bk_are_joined {P : Program} {w : World} {K : PySem.W.Frag} {mg : Str → Option Value} {base : Heap} (T : Facts P w K mg base) (s : Shared) (ws : List Value) (_ : K.In s.heap) (hl : ws.length = 2) : BindsTo s T.fd_are_joined ⟨[], List.zip ["one", "other"] ws⟩ (List.zip ["one", "other"] ws) :=
  bindsK T.F_are_joined (fun _ _ _ _ _ _ ws hl => match ws, hl with | [_, _], _ => rfl) s ws hl
theorem g_are_joined {P : Program} {w : World} {K : PySem.W.Frag} {mg : Str → Option Value} {base : Heap} {C : Cs} (T : Facts P w K mg base) (hC : OkC T C) : FnG P w K mg base 6 T.a_are_joined T.fd_are_joined ["one", "other"] (spF C m_are_joined) := by
  refine fn_body (k := 5) hC.ent T.F_are_joined sc_are_joined fun A outer s H E hr hgd => ?_
  have hN := (sc_are_joined).nd
  have tk : Takes (cxOf (L2.CX P w) P w K mg base N_are_joined "are_joined" (defScope st_are_joined) T.a_are_joined (.ref (codeAt K T.a_are_joined)) A outer s H E) (fun cls d _ H => E cls d H) := takes_of rfl rfl rfl rfl
  have hp := passes_of (X := (cxOf (L2.CX P w) P w K mg base N_are_joined "are_joined" (defScope st_are_joined) T.a_are_joined (.ref (codeAt K T.a_are_joined)) A outer s H E)) rfl
  have hu := room_u hr
  have hu64 := room_v hr
  exact (ss_cons (ss_expr (se_call ((g_need_step T hC).mono (by decide)) hr hgd rfl T.g_need_step T.k_need_step (bd_need_step T) tk (sa_cons (se_var 0) sa_nil)))
 (ss_cons (ss_expr (se_call ((g_need_step T hC).mono (by decide)) hr hgd rfl T.g_need_step T.k_need_step (bd_need_step T) tk (sa_cons (se_var 1) sa_nil)))
 (ss_one (ss_ret (se_cmp ok_notN (se_call ((g_whole_so T hC).mono (by decide)) hr hgd rfl T.g_whole_so T.k_whole_so (bd_whole_so T) tk (sa_cons (se_call ((g_as_poly T hC).mono (by decide)) hr hgd rfl T.g_as_poly T.k_as_poly (bd_as_poly T) tk (sa_cons (se_var 0) sa_nil)) (sa_cons (se_call ((g_as_poly T hC).mono (by decide)) hr hgd rfl T.g_as_poly T.k_as_poly (bd_as_poly T) tk (sa_cons (se_var 1) sa_nil)) sa_nil))) se_non)))))

abbrev st_bar_places : Stmt := top 43
def N_bar_places : List Str := ["one", "other", "near", "far", "places", "found"]
theorem sc_bar_places : FnScope N_bar_places ["one", "other"] (defScope st_bar_places) := ⟨rfl, rfl, rfl, by decide +kernel, rfl, by decide +kernel, by decide +kernel⟩
theorem bd_bar_places {P : Program} {w : World} {K : PySem.W.Frag} {mg : Str → Option Value} {base : Heap} (T : Facts P w K mg base) : Binds K T.fd_bar_places ["one", "other"] [] :=
  T.F_bar_places.bindsN fun _ _ _ _ _ _ us hl => match us, hl with | [_, _], _ => rfl
def b_bar_places : S :=
 (sSeq (sExpr (eCall m_need_step [(eVar 0)]))
 (sSeq (sExpr (eCall m_need_step [(eVar 1)]))
 (sSeq (sPar 2 3 (eCall m_as_poly [(eVar 0)]) (eCall m_as_poly [(eVar 1)]))
 (sSeq (sFreeze 3) (sSeq (sFreeze 2) (sSeq (sUnp (.two (.v 4) (.v 5)) (eCall m_eliminated [(eCall m_all_powers [(eVar 2), (eVar 3)]), (eCall m_common_degree [(eVar 2), (eVar 3)])]))
 (sSeq (sIf (eBin oNotB (eVar 5) (eVal .non))
 (sRaise (fun _ => ⟨5, []⟩) [])
 sPass)
 (sRet (eUn oTuple (eUn oRevS (eVar 4)))))))))))
def m_bar_places : Fn := fnOf 2 6 b_bar_places
theorem bk_bar_places {P : Program} {w : World} {K : PySem.W.Frag} {mg : Str → Option Value} {base : Heap} (T : Facts P w K mg base) (s : Shared) (ws : List Value) (_ : K.In s.heap) (hl : ws.length = 2) : BindsTo s T.fd_bar_places ⟨[], List.zip ["one", "other"] ws⟩ (List.zip ["one", "other"] ws) :=
  bindsK T.F_bar_places (fun _ _ _ _ _ _ ws hl => match ws, hl with | [_, _], _ => rfl) s ws hl
theorem g_bar_places {P : Program} {w : World} {K : PySem.W.Frag} {mg : Str → Option Value} {base : Heap} {C : Cs} (T : Facts P w K mg base) (hC : OkC T C) : FnG P w K mg base 5 T.a_bar_places T.fd_bar_places ["one", "other"] (spF C m_bar_places) := by
  refine fn_body (k := 4) hC.ent T.F_bar_places sc_bar_places fun A outer s H E hr hgd => ?_
  have hN := (sc_bar_places).nd
  have tk : Takes (cxOf (L2.CX P w) P w K mg base N_bar_places "bar_places" (defScope st_bar_places) T.a_bar_places (.ref (codeAt K T.a_bar_places)) A outer s H E) (fun cls d _ H => E cls d H) := takes_of rfl rfl rfl rfl
  have hp := passes_of (X := (cxOf (L2.CX P w) P w K mg base N_bar_places "bar_places" (defScope st_bar_places) T.a_bar_places (.ref (codeAt K T.a_bar_places)) A outer s H E)) rfl
  have hu := room_u hr
  have hu64 := room_v hr
  exact (ss_cons (ss_expr (se_call ((g_need_step T hC).mono (by decide)) hr hgd rfl T.g_need_step T.k_need_step (bd_need_step T) tk (sa_cons (se_var 0) sa_nil)))
 (ss_cons (ss_expr (se_call ((g_need_step T hC).mono (by decide)) hr hgd rfl T.g_need_step T.k_need_step (bd_need_step T) tk (sa_cons (se_var 1) sa_nil)))
 (ss_cons (ss_par (i := 2) (j := 3) rfl hN (se_call ((g_as_poly T hC).mono (by decide)) hr hgd rfl T.g_as_poly T.k_as_poly (bd_as_poly T) tk (sa_cons (se_var 0) sa_nil)) (se_call ((g_as_poly T hC).mono (by decide)) hr hgd rfl T.g_as_poly T.k_as_poly (bd_as_poly T) tk (sa_cons (se_var 1) sa_nil)))
 (ss_freeze (i := 3) (ss_freeze (i := 2) (ss_cons (ss_unp (se_call ((g_eliminated T hC).mono (by decide)) hr hgd rfl T.g_eliminated T.k_eliminated (bd_eliminated T) tk (sa_cons (se_call ((g_all_powers T hC).mono (by decide)) hr hgd rfl T.g_all_powers T.k_all_powers (bd_all_powers T) tk (sa_cons (se_var 2) (sa_cons (se_var 3) sa_nil))) (sa_cons (se_call ((g_common_degree T hC).mono (by decide)) hr hgd rfl T.g_common_degree T.k_common_degree (bd_common_degree T) tk (sa_cons (se_var 2) (sa_cons (se_var 3) sa_nil))) sa_nil))) (st_two rfl (st_v 4 hN) (st_v 5 hN)))
 (ss_cons (ss_if (sb_cmp ok_notN (se_var 5) se_non) (ss_one (ss_raise0 T.x_NoRow hr rfl tk (by rw [hC.cls]; rfl) rfl T.g_NoRow)) ss_nil)
 (ss_one (ss_ret (se_t1 (c_tuple) rfl T.tuple (by decide +kernel) (se_revA (se_var 4))))))))))))

abbrev st_number_of : Stmt := top 16
def N_number_of : List Str := ["above", "below", "whole"]
theorem sc_number_of : FnScope N_number_of ["above", "below"] (defScope st_number_of) := ⟨rfl, rfl, rfl, by decide +kernel, rfl, by decide +kernel, by decide +kernel⟩
theorem bd_number_of {P : Program} {w : World} {K : PySem.W.Frag} {mg : Str → Option Value} {base : Heap} (T : Facts P w K mg base) : Binds K T.fd_number_of ["above", "below"] [] :=
  T.F_number_of.bindsN fun _ _ _ _ _ _ us hl => match us, hl with | [_, _], _ => rfl
def b_number_of : S :=
 (sSeq (sAsg 2 (eBin oGcd (eVar 0) (eVar 1)))
 (sSeq (sIf (eBin oLt (eVar 1) (eVal (.int 0)))
 (sAsg 2 (eUn oNeg (eVar 2)))
 sPass)
 (sRet (eTup [(eBin oDiv (eVar 0) (eVar 2)), (eBin oDiv (eVar 1) (eVar 2))]))))
def m_number_of : Fn := fnOf 2 3 b_number_of
theorem g_number_of {P : Program} {w : World} {K : PySem.W.Frag} {mg : Str → Option Value} {base : Heap} {C : Cs} (T : Facts P w K mg base) (hC : OkC T C) : FnG P w K mg base 1 T.a_number_of T.fd_number_of ["above", "below"] (spF C m_number_of) := by
  refine fn_body (k := 0) hC.ent T.F_number_of sc_number_of fun A outer s H E hr hgd => ?_
  have hN := (sc_number_of).nd
  have tk : Takes (cxOf (L2.CX P w) P w K mg base N_number_of "number_of" (defScope st_number_of) T.a_number_of (.ref (codeAt K T.a_number_of)) A outer s H E) (fun cls d _ H => E cls d H) := takes_of rfl rfl rfl rfl
  have hp := passes_of (X := (cxOf (L2.CX P w) P w K mg base N_number_of "number_of" (defScope st_number_of) T.a_number_of (.ref (codeAt K T.a_number_of)) A outer s H E)) rfl
  have hu := room_u hr
  have hu64 := room_v hr
  exact (ss_cons (ss_set (i := 2) hN (se_g2 c_gcd rfl T.gcd (se_var 0) (se_var 1)))
 (ss_cons (ss_if (sb_cmp ok_lt (se_var 1) se_int) (ss_one (ss_set (i := 2) hN (se_neg (se_var 2)))) ss_nil)
 (ss_one (ss_ret (se_tup (sa_cons (se_op ok_div (se_var 0) (se_var 2)) (sa_cons (se_op ok_div (se_var 1) (se_var 2)) sa_nil)))))))

abbrev st_as_step : Stmt := top 19
def N_as_step : List Str := ["poly", "number"]
theorem sc_as_step : FnScope N_as_step ["poly"] (defScope st_as_step) := ⟨rfl, rfl, rfl, by decide +kernel, rfl, by decide +kernel, by decide +kernel⟩
theorem bd_as_step {P : Program} {w : World} {K : PySem.W.Frag} {mg : Str → Option Value} {base : Heap} (T : Facts P w K mg base) : Binds K T.fd_as_step ["poly"] [] :=
  T.F_as_step.bindsN fun _ _ _ _ _ _ us hl => match us, hl with | [_], _ => rfl
def b_as_step : S :=
 (sRet (eUn oTuple (eComp [1] (iSeqB (eBin oIx (eVar 0) (eVal (.int 0)))) (.v 1) none (eCall m_number_of [(eVar 1), (eBin oIx (eVar 0) (eVal (.int 1)))]))))
def m_as_step : Fn := fnOf 1 2 b_as_step
theorem g_as_step {P : Program} {w : World} {K : PySem.W.Frag} {mg : Str → Option Value} {base : Heap} {C : Cs} (T : Facts P w K mg base) (hC : OkC T C) : FnG P w K mg base 2 T.a_as_step T.fd_as_step ["poly"] (spF C m_as_step) := by
  refine fn_body (k := 1) hC.ent T.F_as_step sc_as_step fun A outer s H E hr hgd => ?_
  have hN := (sc_as_step).nd
  have tk : Takes (cxOf (L2.CX P w) P w K mg base N_as_step "as_step" (defScope st_as_step) T.a_as_step (.ref (codeAt K T.a_as_step)) A outer s H E) (fun cls d _ H => E cls d H) := takes_of rfl rfl rfl rfl
  have hp := passes_of (X := (cxOf (L2.CX P w) P w K mg base N_as_step "as_step" (defScope st_as_step) T.a_as_step (.ref (codeAt K T.a_as_step)) A outer s H E)) rfl
  have hu := room_u hr
  have hu64 := room_v hr
  exact (ss_one (ss_ret (se_t1 (c_tuple) rfl T.tuple (by decide +kernel) (se_comp (own := [("number", 1)]) rfl hN (sic_seq (se_ix hu (se_var 0) se_int)) (blkOk_by (by first | rfl | kernel_rfl)) (fun _ _ _ _ _ => (st_v 1 hN)) (fun _ _ _ _ _ => (se_call ((g_number_of T hC).mono (by decide)) hr hgd rfl T.g_number_of T.k_number_of (bd_number_of T) LamX.takes0 (sa_cons (se_var 1) (sa_cons (se_ix hu (se_var 0) se_int) sa_nil))))))))

abbrev st_constants : Stmt := top 32
def N_constants : List Str := ["rests", "rest"]
theorem sc_constants : FnScope N_constants ["rests"] (defScope st_constants) := ⟨rfl, rfl, rfl, by decide +kernel, rfl, by decide +kernel, by decide +kernel⟩
theorem bd_constants {P : Program} {w : World} {K : PySem.W.Frag} {mg : Str → Option Value} {base : Heap} (T : Facts P w K mg base) : Binds K T.fd_constants ["rests"] [] :=
  T.F_constants.bindsN fun _ _ _ _ _ _ us hl => match us, hl with | [_], _ => rfl
def b_constants : S :=
 (sSeq (sIf (eBin oGt (eUn oMaxL (eComp [1] (iSeqB (eVar 0)) (.v 1) none (eUn oLen (eBin oIx (eVar 1) (eVal (.int 0)))))) (eVal (.int 1)))
 (sRet (eVal .non))
 sPass)
 (sRet (eCall m_from_numbers [(eComp [1] (iSeqB (eVar 0)) (.v 1) none (eIf (eBin oNe (eBin oIx (eVar 1) (eVal (.int 0))) (eLst [])) (eCall m_number_of [(eBin oIx (eBin oIx (eVar 1) (eVal (.int 0))) (eVal (.int 0))), (eBin oIx (eVar 1) (eVal (.int 1)))]) (eTup [(eVal (.int 0)), (eVal (.int 1))])))])))
def m_constants : Fn := fnOf 1 2 b_constants
theorem g_constants {P : Program} {w : World} {K : PySem.W.Frag} {mg : Str → Option Value} {base : Heap} {C : Cs} (T : Facts P w K mg base) (hC : OkC T C) : FnG P w K mg base 3 T.a_constants T.fd_constants ["rests"] (spF C m_constants) := by
  refine fn_body (k := 2) hC.ent T.F_constants sc_constants fun A outer s H E hr hgd => ?_
  have hN := (sc_constants).nd
  have tk : Takes (cxOf (L2.CX P w) P w K mg base N_constants "constants" (defScope st_constants) T.a_constants (.ref (codeAt K T.a_constants)) A outer s H E) (fun cls d _ H => E cls d H) := takes_of rfl rfl rfl rfl
  have hp := passes_of (X := (cxOf (L2.CX P w) P w K mg base N_constants "constants" (defScope st_constants) T.a_constants (.ref (codeAt K T.a_constants)) A outer s H E)) rfl
  have hu := room_u hr
  have hu64 := room_v hr
  exact (ss_cons (ss_if (sb_cmp ok_gt (se_b1 (c_maxL rfl) rfl T.max (by decide +kernel) (se_comp (own := [("rest", 1)]) rfl hN (sic_seq (se_var 0)) (blkOk_by (by first | rfl | kernel_rfl)) (fun _ _ _ _ _ => (st_v 1 hN)) (fun _ _ _ _ _ => (se_b1 (c_len) rfl T.len (by decide +kernel) (se_ix hu (se_var 1) se_int))))) se_int) (ss_one (ss_ret se_non)) ss_nil)
 (ss_one (ss_ret (se_call ((g_from_numbers T hC).mono (by decide)) hr hgd rfl T.g_from_numbers T.k_from_numbers (bd_from_numbers T) tk (sa_cons (se_comp (own := [("rest", 1)]) rfl hN (sic_seq (se_var 0)) (blkOk_by (by first | rfl | kernel_rfl)) (fun _ _ _ _ _ => (st_v 1 hN)) (fun _ _ _ _ _ => (se_if (sb_cmp (ok_ne hu64) (se_ix hu (se_var 1) se_int) (se_lst sa_nil)) (se_call ((g_number_of T hC).mono (by decide)) hr hgd rfl T.g_number_of T.k_number_of (bd_number_of T) LamX.takes0 (sa_cons (se_ix hu (se_ix hu (se_var 1) se_int) se_int) (sa_cons (se_ix hu (se_var 1) se_int) sa_nil))) (se_tup (sa_cons se_int (sa_cons se_int sa_nil)))))) sa_nil)))))

abbrev st_plus : Stmt := top 21
def N_plus : List Str := ["one", "other", "many", "found", "index", "near", "far"]
theorem sc_plus : FnScope N_plus ["one", "other"] (defScope st_plus) := ⟨rfl, rfl, rfl, by decide +kernel, rfl, by decide +kernel, by decide +kernel⟩
theorem bd_plus {P : Program} {w : World} {K : PySem.W.Frag} {mg : Str → Option Value} {base : Heap} (T : Facts P w K mg base) : Binds K T.fd_plus ["one", "other"] [] :=
  T.F_plus.bindsN fun _ _ _ _ _ _ us hl => match us, hl with | [_, _], _ => rfl
def b_plus : S :=
 (sSeq (sAsg 2 (eBin oMax2 (eUn oLen (eBin oIx (eVar 0) (eVal (.int 0)))) (eUn oLen (eBin oIx (eVar 1) (eVal (.int 0))))))
 (sSeq (sAsg 3 (eLst []))
 (sSeq (sFor (iRange1 (eVar 2)) (.v 4)
 (sSeq (sAsg 5 (eIf (eBin oLt (eVar 4) (eUn oLen (eBin oIx (eVar 0) (eVal (.int 0))))) (eBin oMul (eBin oIx (eBin oIx (eVar 0) (eVal (.int 0))) (eVar 4)) (eBin oIx (eVar 1) (eVal (.int 1)))) (eVal (.int 0))))
 (sSeq (sAsg 6 (eIf (eBin oLt (eVar 4) (eUn oLen (eBin oIx (eVar 1) (eVal (.int 0))))) (eBin oMul (eBin oIx (eBin oIx (eVar 1) (eVal (.int 0))) (eVar 4)) (eBin oIx (eVar 0) (eVal (.int 1)))) (eVal (.int 0))))
 (sMutL 3 mAppend (eBin oAdd (eVar 5) (eVar 6))))))
 (sSeq (sFreeze 3) (sRet (eCall m_reduced [(eVar 3), (eBin oMul (eBin oIx (eVar 0) (eVal (.int 1))) (eBin oIx (eVar 1) (eVal (.int 1))))]))))))
def m_plus : Fn := fnOf 2 7 b_plus
theorem g_plus {P : Program} {w : World} {K : PySem.W.Frag} {mg : Str → Option Value} {base : Heap} {C : Cs} (T : Facts P w K mg base) (hC : OkC T C) : FnG P w K mg base 2 T.a_plus T.fd_plus ["one", "other"] (spF C m_plus) := by
  refine fn_body (k := 1) hC.ent T.F_plus sc_plus fun A outer s H E hr hgd => ?_
  have hN := (sc_plus).nd
  have tk : Takes (cxOf (L2.CX P w) P w K mg base N_plus "plus" (defScope st_plus) T.a_plus (.ref (codeAt K T.a_plus)) A outer s H E) (fun cls d _ H => E cls d H) := takes_of rfl rfl rfl rfl
  have hp := passes_of (X := (cxOf (L2.CX P w) P w K mg base N_plus "plus" (defScope st_plus) T.a_plus (.ref (codeAt K T.a_plus)) A outer s H E)) rfl
  have hu := room_u hr
  have hu64 := room_v hr
  exact (ss_cons (ss_set (i := 2) hN (se_b2 (c_max2 rfl) rfl T.max (by decide +kernel) (se_b1 (c_len) rfl T.len (by decide +kernel) (se_ix hu (se_var 0) se_int)) (se_b1 (c_len) rfl T.len (by decide +kernel) (se_ix hu (se_var 1) se_int))))
 (ss_cons (ss_set (i := 3) hN (se_lst sa_nil))
 (ss_cons (ss_for hp rfl (si_range1 rfl T.range (se_var 2)) (st_v 4 hN) (ss_cons (ss_set (i := 5) hN (se_if (sb_cmp ok_lt (se_var 4) (se_b1 (c_len) rfl T.len (by decide +kernel) (se_ix hu (se_var 0) se_int))) (se_op ok_mul (se_ix hu (se_ix hu (se_var 0) se_int) (se_var 4)) (se_ix hu (se_var 1) se_int)) se_int))
 (ss_cons (ss_set (i := 6) hN (se_if (sb_cmp ok_lt (se_var 4) (se_b1 (c_len) rfl T.len (by decide +kernel) (se_ix hu (se_var 1) se_int))) (se_op ok_mul (se_ix hu (se_ix hu (se_var 1) se_int) (se_var 4)) (se_ix hu (se_var 0) se_int)) se_int))
 (ss_one (ss_append (i := 3) (se_op ok_add (se_var 5) (se_var 6)))))))
 (ss_freeze (i := 3) (ss_one (ss_ret (se_call ((g_reduced T hC).mono (by decide)) hr hgd rfl T.g_reduced T.k_reduced (bd_reduced T) tk (sa_cons (se_var 3) (sa_cons (se_op ok_mul (se_ix hu (se_var 0) se_int) (se_ix hu (se_var 1) se_int)) sa_nil)))))))))

abbrev st_divided : Stmt := top 23
def N_divided : List Str := ["poly", "base", "top", "quotient", "rest", "below", "more", "place", "head", "number", "near", "far"]
theorem sc_divided : FnScope N_divided ["poly", "base"] (defScope st_divided) := ⟨rfl, rfl, rfl, by decide +kernel, rfl, by decide +kernel, by decide +kernel⟩
theorem bd_divided {P : Program} {w : World} {K : PySem.W.Frag} {mg : Str → Option Value} {base : Heap} (T : Facts P w K mg base) : Binds K T.fd_divided ["poly", "base"] [] :=
  T.F_divided.bindsN fun _ _ _ _ _ _ us hl => match us, hl with | [_, _], _ => rfl
def b_divided : S :=
 (sSeq (sPar 4 5 (eUn oList (eBin oIx (eVar 0) (eVal (.int 0)))) (eBin oIx (eVar 0) (eVal (.int 1))))
 (sSeq (sAsg 2 (eBin oIx (eBin oIx (eVar 1) (eVal (.int 0))) (eUn oNeg (eVal (.int 1)))))
 (sSeq (sAsg 3 (eTup [(eLst []), (eVal (.int 1))]))
 (sSeq (sWhile (eBin oGe (eUn oLen (eVar 4)) (eUn oLen (eBin oIx (eVar 1) (eVal (.int 0)))))
 (sSeq (sPar 7 8 (eBin oSub (eUn oLen (eVar 4)) (eUn oLen (eBin oIx (eVar 1) (eVal (.int 0))))) (eBin oIx (eVar 4) (eUn oNeg (eVal (.int 1)))))
 (sSeq (sFreeze 3) (sSeq (sAsg 3 (eCall m_plus [(eVar 3), (eCall m_reduced [(eBin oAdd (eBin oMul (eLst [(eVal (.int 0))]) (eVar 7)) (eLst [(eBin oMul (eVar 8) (eBin oIx (eVar 1) (eVal (.int 1))))])), (eBin oMul (eVar 5) (eVar 2))])]))
 (sSeq (sAsg 6 (eBin oAdd (eBin oMul (eLst [(eVal (.int 0))]) (eVar 7)) (eComp [9] (iSeqB (eBin oIx (eVar 1) (eVal (.int 0)))) (.v 9) none (eBin oMul (eVar 8) (eVar 9)))))
 (sSeq (sFreeze 6) (sSeq (sFreeze 4) (sUnp (.two (.v 4) (.v 5)) (eCall m_reduced [(eComp [10, 11] (iZip2 (eVar 4) (eVar 6)) (.two (.v 10) (.v 11)) none (eBin oSub (eBin oMul (eVar 2) (eVar 10)) (eVar 11))), (eBin oMul (eVar 5) (eVar 2))])))))))))
 (sSeq (sFreeze 4) (sSeq (sFreeze 3) (sRet (eTup [(eVar 3), (eTup [(eVar 4), (eVar 5)])]))))))))
def m_divided : Fn := fnOf 2 12 b_divided
theorem g_divided {P : Program} {w : World} {K : PySem.W.Frag} {mg : Str → Option Value} {base : Heap} {C : Cs} (T : Facts P w K mg base) (hC : OkC T C) : FnG P w K mg base 3 T.a_divided T.fd_divided ["poly", "base"] (spF C m_divided) := by
  refine fn_body (k := 2) hC.ent T.F_divided sc_divided fun A outer s H E hr hgd => ?_
  have hN := (sc_divided).nd
  have tk : Takes (cxOf (L2.CX P w) P w K mg base N_divided "divided" (defScope st_divided) T.a_divided (.ref (codeAt K T.a_divided)) A outer s H E) (fun cls d _ H => E cls d H) := takes_of rfl rfl rfl rfl
  have hp := passes_of (X := (cxOf (L2.CX P w) P w K mg base N_divided "divided" (defScope st_divided) T.a_divided (.ref (codeAt K T.a_divided)) A outer s H E)) rfl
  have hu := room_u hr
  have hu64 := room_v hr
  exact (ss_cons (ss_par (i := 4) (j := 5) rfl hN (se_t1 (c_list) rfl T.list (by decide +kernel) (se_ix hu (se_var 0) se_int)) (se_ix hu (se_var 0) se_int))
 (ss_cons (ss_set (i := 2) hN (se_ix hu (se_ix hu (se_var 1) se_int) (se_neg se_int)))
 (ss_cons (ss_set (i := 3) hN (se_tup (sa_cons (se_lst sa_nil) (sa_cons se_int sa_nil))))
 (ss_cons (ss_while hp (sb_cmp ok_ge (se_b1 (c_len) rfl T.len (by decide +kernel) (se_var 4)) (se_b1 (c_len) rfl T.len (by decide +kernel) (se_ix hu (se_var 1) se_int))) (ss_cons (ss_parC (i := 7) (j := 8) rfl hN (se_op ok_sub (se_b1 (c_len) rfl T.len (by decide +kernel) (se_var 4)) (se_b1 (c_len) rfl T.len (by decide +kernel) (se_ix hu (se_var 1) se_int))) (se_ix hu (se_var 4) (se_neg se_int)))
 (ss_freeze (i := 3) (ss_cons (ss_set (i := 3) hN (se_call ((g_plus T hC).mono (by decide)) hr hgd rfl T.g_plus T.k_plus (bd_plus T) tk (sa_cons (se_var 3) (sa_cons (se_call ((g_reduced T hC).mono (by decide)) hr hgd rfl T.g_reduced T.k_reduced (bd_reduced T) tk (sa_cons (se_op ok_add (se_op ok_mul (se_lst (sa_cons se_int sa_nil)) (se_var 7)) (se_lst (sa_cons (se_op ok_mul (se_var 8) (se_ix hu (se_var 1) se_int)) sa_nil))) (sa_cons (se_op ok_mul (se_var 5) (se_var 2)) sa_nil))) sa_nil))))
 (ss_cons (ss_set (i := 6) hN (se_op ok_add (se_op ok_mul (se_lst (sa_cons se_int sa_nil)) (se_var 7)) (se_comp (own := [("number", 9)]) rfl hN (sic_seq (se_ix hu (se_var 1) se_int)) (blkOk_by (by first | rfl | kernel_rfl)) (fun _ _ _ _ _ => (st_v 9 hN)) (fun _ _ _ _ _ => (se_op ok_mul (se_var 8) (se_var 9))))))
 (ss_freeze (i := 6) (ss_freeze (i := 4) (ss_one (ss_unp (se_call ((g_reduced T hC).mono (by decide)) hr hgd rfl T.g_reduced T.k_reduced (bd_reduced T) tk (sa_cons (se_comp (own := [("near", 10), ("far", 11)]) rfl hN (sic_of (si_zip2 rfl T.zip (se_var 4) (se_var 6))) (blkOk_by (by first | rfl | kernel_rfl)) (fun _ _ _ _ _ => (st_two rfl (st_v 10 hN) (st_v 11 hN))) (fun _ _ _ _ _ => (se_op ok_sub (se_op ok_mul (se_var 2) (se_var 10)) (se_var 11)))) (sa_cons (se_op ok_mul (se_var 5) (se_var 2)) sa_nil))) (st_two rfl (st_v 4 hN) (st_v 5 hN)))))))))))
 (ss_freeze (i := 4) (ss_freeze (i := 3) (ss_one (ss_ret (se_tup (sa_cons (se_var 3) (sa_cons (se_tup (sa_cons (se_var 4) (sa_cons (se_var 5) sa_nil))) sa_nil)))))))))))

abbrev st_remainders : Stmt := top 31
def N_remainders : List Str := ["poly", "base", "found", "left", "rest"]
theorem sc_remainders : FnScope N_remainders ["poly", "base"] (defScope st_remainders) := ⟨rfl, rfl, rfl, by decide +kernel, rfl, by decide +kernel, by decide +kernel⟩
theorem bd_remainders {P : Program} {w : World} {K : PySem.W.Frag} {mg : Str → Option Value} {base : Heap} (T : Facts P w K mg base) : Binds K T.fd_remainders ["poly", "base"] [] :=
  T.F_remainders.bindsN fun _ _ _ _ _ _ us hl => match us, hl with | [_, _], _ => rfl
def b_remainders : S :=
 (sSeq (sPar 2 3 (eLst []) (eVar 0))
 (sSeq (sWhile (eBin oNe (eBin oIx (eVar 3) (eVal (.int 0))) (eLst []))
 (sSeq (sUnp (.two (.v 3) (.v 4)) (eCall m_divided [(eVar 3), (eVar 1)]))
 (sMutL 2 mAppend (eVar 4))))
 (sRetV 2)))
def m_remainders : Fn := fnOf 2 5 b_remainders
theorem g_remainders {P : Program} {w : World} {K : PySem.W.Frag} {mg : Str → Option Value} {base : Heap} {C : Cs} (T : Facts P w K mg base) (hC : OkC T C) : FnG P w K mg base 4 T.a_remainders T.fd_remainders ["poly", "base"] (spF C m_remainders) := by
  refine fn_body (k := 3) hC.ent T.F_remainders sc_remainders fun A outer s H E hr hgd => ?_
  have hN := (sc_remainders).nd
  have tk : Takes (cxOf (L2.CX P w) P w K mg base N_remainders "remainders" (defScope st_remainders) T.a_remainders (.ref (codeAt K T.a_remainders)) A outer s H E) (fun cls d _ H => E cls d H) := takes_of rfl rfl rfl rfl
  have hp := passes_of (X := (cxOf (L2.CX P w) P w K mg base N_remainders "remainders" (defScope st_remainders) T.a_remainders (.ref (codeAt K T.a_remainders)) A outer s H E)) rfl
  have hu := room_u hr
  have hu64 := room_v hr
  exact (ss_cons (ss_par (i := 2) (j := 3) rfl hN (se_lst sa_nil) (se_var 0))
 (ss_cons (ss_while hp (sb_cmp (ok_ne hu64) (se_ix hu (se_var 3) se_int) (se_lst sa_nil)) (ss_cons (ss_unp (se_call ((g_divided T hC).mono (by decide)) hr hgd rfl T.g_divided T.k_divided (bd_divided T) tk (sa_cons (se_var 3) (sa_cons (se_var 1) sa_nil))) (st_two rfl (st_v 3 hN) (st_v 4 hN)))
 (ss_one (ss_append (i := 2) (se_var 4)))))
 (ss_one (ss_retV (i := 2)))))

abbrev st_last_so : Stmt := top 33
def N_last_so : List Str := ["poly", "first"]
theorem sc_last_so : FnScope N_last_so ["poly", "first"] (defScope st_last_so) := ⟨rfl, rfl, rfl, by decide +kernel, rfl, by decide +kernel, by decide +kernel⟩
theorem bd_last_so {P : Program} {w : World} {K : PySem.W.Frag} {mg : Str → Option Value} {base : Heap} (T : Facts P w K mg base) : Binds K T.fd_last_so ["poly", "first"] [] :=
  T.F_last_so.bindsN fun _ _ _ _ _ _ us hl => match us, hl with | [_, _], _ => rfl
def b_last_so : S :=
 (sSeq (sIf (eBin oNe (eBin oMod (eBin oSub (eUn oLen (eBin oIx (eVar 0) (eVal (.int 0)))) (eVal (.int 1))) (eBin oSub (eUn oLen (eBin oIx (eVar 1) (eVal (.int 0)))) (eVal (.int 1)))) (eVal (.int 0)))
 (sRet (eVal .non))
 sPass)
 (sRet (eCall m_constants [(eCall m_remainders [(eVar 0), (eVar 1)])])))
def m_last_so : Fn := fnOf 2 2 b_last_so
theorem g_last_so {P : Program} {w : World} {K : PySem.W.Frag} {mg : Str → Option Value} {base : Heap} {C : Cs} (T : Facts P w K mg base) (hC : OkC T C) : FnG P w K mg base 5 T.a_last_so T.fd_last_so ["poly", "first"] (spF C m_last_so) := by
  refine fn_body (k := 4) hC.ent T.F_last_so sc_last_so fun A outer s H E hr hgd => ?_
  have hN := (sc_last_so).nd
  have tk : Takes (cxOf (L2.CX P w) P w K mg base N_last_so "last_so" (defScope st_last_so) T.a_last_so (.ref (codeAt K T.a_last_so)) A outer s H E) (fun cls d _ H => E cls d H) := takes_of rfl rfl rfl rfl
  have hp := passes_of (X := (cxOf (L2.CX P w) P w K mg base N_last_so "last_so" (defScope st_last_so) T.a_last_so (.ref (codeAt K T.a_last_so)) A outer s H E)) rfl
  have hu := room_u hr
  have hu64 := room_v hr
  exact (ss_cons (ss_if (sb_cmp (ok_ne hu64) (se_op ok_mod (se_op ok_sub (se_b1 (c_len) rfl T.len (by decide +kernel) (se_ix hu (se_var 0) se_int)) se_int) (se_op ok_sub (se_b1 (c_len) rfl T.len (by decide +kernel) (se_ix hu (se_var 1) se_int)) se_int)) se_int) (ss_one (ss_ret se_non)) ss_nil)
 (ss_one (ss_ret (se_call ((g_constants T hC).mono (by decide)) hr hgd rfl T.g_constants T.k_constants (bd_constants T) tk (sa_cons (se_call ((g_remainders T hC).mono (by decide)) hr hgd rfl T.g_remainders T.k_remainders (bd_remainders T) tk (sa_cons (se_var 0) (sa_cons (se_var 1) sa_nil))) sa_nil)))))

abbrev st_common_whole : Stmt := top 42
def N_common_whole : List Str := ["one", "other", "found", "near", "far"]
theorem sc_common_whole : FnScope N_common_whole ["one", "other"] (defScope st_common_whole) := ⟨rfl, rfl, rfl, by decide +kernel, rfl, by decide +kernel, by decide +kernel⟩
theorem bd_common_whole {P : Program} {w : World} {K : PySem.W.Frag} {mg : Str → Option Value} {base : Heap} (T : Facts P w K mg base) : Binds K T.fd_common_whole ["one", "other"] [] :=
  T.F_common_whole.bindsN fun _ _ _ _ _ _ us hl => match us, hl with | [_, _], _ => rfl
def b_common_whole : S :=
 (sSeq (sExpr (eCall m_need_step [(eVar 0)]))
 (sSeq (sExpr (eCall m_need_step [(eVar 1)]))
 (sSeq (sPar 3 4 (eCall m_as_poly [(eVar 0)]) (eCall m_as_poly [(eVar 1)]))
 (sSeq (sFreeze 4) (sSeq (sFreeze 3) (sSeq (sAsg 2 (eCall m_whole_so [(eVar 3), (eVar 4)]))
 (sSeq (sIf (eBin oIsB (eVar 2) (eVal .non))
 (sRet (eVal .non))
 sPass)
 (sSeq (sFreeze 4) (sSeq (sFreeze 3) (sSeq (sFreeze 2) (sRet (eTup [(eCall m_as_step [(eCall m_last_so [(eVar 2), (eVar 3)])]), (eCall m_as_step [(eCall m_last_so [(eVar 2), (eVar 4)])]), (eCall m_as_step [(eVar 2)])]))))))))))))
def m_common_whole : Fn := fnOf 2 5 b_common_whole
theorem bk_common_whole {P : Program} {w : World} {K : PySem.W.Frag} {mg : Str → Option Value} {base : Heap} (T : Facts P w K mg base) (s : Shared) (ws : List Value) (_ : K.In s.heap) (hl : ws.length = 2) : BindsTo s T.fd_common_whole ⟨[], List.zip ["one", "other"] ws⟩ (List.zip ["one", "other"] ws) :=
  bindsK T.F_common_whole (fun _ _ _ _ _ _ ws hl => match ws, hl with | [_, _], _ => rfl) s ws hl
theorem g_common_whole {P : Program} {w : World} {K : PySem.W.Frag} {mg : Str → Option Value} {base : Heap} {C : Cs} (T : Facts P w K mg base) (hC : OkC T C) : FnG P w K mg base 6 T.a_common_whole T.fd_common_whole ["one", "other"] (spF C m_common_whole) := by
  refine fn_body (k := 5) hC.ent T.F_common_whole sc_common_whole fun A outer s H E hr hgd => ?_
  have hN := (sc_common_whole).nd
  have tk : Takes (cxOf (L2.CX P w) P w K mg base N_common_whole "common_whole" (defScope st_common_whole) T.a_common_whole (.ref (codeAt K T.a_common_whole)) A outer s H E) (fun cls d _ H => E cls d H) := takes_of rfl rfl rfl rfl
  have hp := passes_of (X := (cxOf (L2.CX P w) P w K mg base N_common_whole "common_whole" (defScope st_common_whole) T.a_common_whole (.ref (codeAt K T.a_common_whole)) A outer s H E)) rfl
  have hu := room_u hr
  have hu64 := room_v hr
  exact (ss_cons (ss_expr (se_call ((g_need_step T hC).mono (by decide)) hr hgd rfl T.g_need_step T.k_need_step (bd_need_step T) tk (sa_cons (se_var 0) sa_nil)))
 (ss_cons (ss_expr (se_call ((g_need_step T hC).mono (by decide)) hr hgd rfl T.g_need_step T.k_need_step (bd_need_step T) tk (sa_cons (se_var 1) sa_nil)))
 (ss_cons (ss_par (i := 3) (j := 4) rfl hN (se_call ((g_as_poly T hC).mono (by decide)) hr hgd rfl T.g_as_poly T.k_as_poly (bd_as_poly T) tk (sa_cons (se_var 0) sa_nil)) (se_call ((g_as_poly T hC).mono (by decide)) hr hgd rfl T.g_as_poly T.k_as_poly (bd_as_poly T) tk (sa_cons (se_var 1) sa_nil)))
 (ss_freeze (i := 4) (ss_freeze (i := 3) (ss_cons (ss_set (i := 2) hN (se_call ((g_whole_so T hC).mono (by decide)) hr hgd rfl T.g_whole_so T.k_whole_so (bd_whole_so T) tk (sa_cons (se_var 3) (sa_cons (se_var 4) sa_nil))))
 (ss_cons (ss_if (sb_cmp ok_isN (se_var 2) se_non) (ss_one (ss_ret se_non)) ss_nil)
 (ss_freeze (i := 4) (ss_freeze (i := 3) (ss_freeze (i := 2) (ss_one (ss_ret (se_tup (sa_cons (se_call ((g_as_step T hC).mono (by decide)) hr hgd rfl T.g_as_step T.k_as_step (bd_as_step T) tk (sa_cons (se_call ((g_last_so T hC).mono (by decide)) hr hgd rfl T.g_last_so T.k_last_so (bd_last_so T) tk (sa_cons (se_var 2) (sa_cons (se_var 3) sa_nil))) sa_nil)) (sa_cons (se_call ((g_as_step T hC).mono (by decide)) hr hgd rfl T.g_as_step T.k_as_step (bd_as_step T) tk (sa_cons (se_call ((g_last_so T hC).mono (by decide)) hr hgd rfl T.g_last_so T.k_last_so (bd_last_so T) tk (sa_cons (se_var 2) (sa_cons (se_var 4) sa_nil))) sa_nil)) (sa_cons (se_call ((g_as_step T hC).mono (by decide)) hr hgd rfl T.g_as_step T.k_as_step (bd_as_step T) tk (sa_cons (se_var 2) sa_nil)) sa_nil))))))))))))))))

def tabV : Nat → Option Fn
  | 1 => some m_common_whole
  | 2 => some m_are_joined
  | 3 => some m_bar_places
  | _ => none
theorem tabG {P : Program} {w : World} {K : PySem.W.Frag} {mg : Str → Option Value} {base : Heap} {C : Cs} (T : Facts P w K mg base) (hC : OkC T C) {X : Cx} (e1 : X.prog = P := by rfl) (e2 : X.w = w := by rfl) (e3 : X.K = K := by rfl) (e4 : X.mg = mg := by rfl) (e5 : X.base = base := by rfl) : TabG X C 6 tabV := by
  subst e1 e2 e3 e4 e5
  intro n m h
  match n, m, h with
  | 0, _, h => cases (show (none : Option Fn) = some _ from h)
  | 1, m, h => cases (show some m_common_whole = some m from h); exact ⟨T.a_common_whole, T.fd_common_whole, _, by rw [hC.fns]; rfl, (g_common_whole T hC).mono (by decide), T.k_common_whole, bd_common_whole T⟩
  | 2, m, h => cases (show some m_are_joined = some m from h); exact ⟨T.a_are_joined, T.fd_are_joined, _, by rw [hC.fns]; rfl, (g_are_joined T hC).mono (by decide), T.k_are_joined, bd_are_joined T⟩
  | 3, m, h => cases (show some m_bar_places = some m from h); exact ⟨T.a_bar_places, T.fd_bar_places, _, by rw [hC.fns]; rfl, (g_bar_places T hC).mono (by decide), T.k_bar_places, bd_bar_places T⟩
  | n + 4, _, h => cases (show (none : Option Fn) = some _ from h)

abbrev st_is_rows_free : Stmt := top 44
def N_is_rows_free : List Str := ["rows", "left", "place", "able", "rest", "row"]
theorem sc_is_rows_free : FnScope N_is_rows_free ["rows"] (defScope st_is_rows_free) := ⟨rfl, rfl, rfl, by decide +kernel, rfl, by decide +kernel, by decide +kernel⟩
theorem bd_is_rows_free {P : Program} {w : World} {K : PySem.W.Frag} {mg : Str → Option Value} {base : Heap} (T : Facts P w K mg base) : Binds K T.fd_is_rows_free ["rows"] [] :=
  T.F_is_rows_free.bindsN fun _ _ _ _ _ _ us hl => match us, hl with | [_], _ => rfl
def b_is_rows_free : S :=
 (sSeq (sAsg 1 (eCall m_whole_numbers [(eVar 0)]))
 (sSeq (sFor (iRange1 (eUn oLen (eVar 0))) (.v 2)
 (sSeq (sAsg 3 (eComp [5] (iSeqB (eVar 1)) (.v 5) (some (eBin oNe (eBin oIx (eVar 5) (eVar 2)) (eVal (.int 0)))) (eVar 5)))
 (sSeq (sIf (eBin oEq (eVar 3) (eLst []))
 (sRet (eVal (.bl false)))
 sPass)
 (sSeq (sAsg 4 (eComp [5] (iSeqB (eVar 1)) (.v 5) (some (eBin oEq (eBin oIx (eVar 5) (eVar 2)) (eVal (.int 0)))) (eVar 5)))
 (sAsg 1 (eCall m_whole_numbers [(eBin oAdd (eVar 4) (eComp [5] (iSeqB (eSlice (eVar 3) (some (eVal (.int 1))) none)) (.v 5) none (eCall m_cleared [(eVar 5), (eVar 2), (eBin oIx (eVar 3) (eVal (.int 0)))])))]))))))
 (sRet (eVal (.bl true)))))
def m_is_rows_free : Fn := fnOf 1 6 b_is_rows_free
theorem g_is_rows_free {P : Program} {w : World} {K : PySem.W.Frag} {mg : Str → Option Value} {base : Heap} {C : Cs} (T : Facts P w K mg base) (hC : OkC T C) : FnG P w K mg base 2 T.a_is_rows_free T.fd_is_rows_free ["rows"] (spF C m_is_rows_free) := by
  refine fn_body (k := 1) hC.ent T.F_is_rows_free sc_is_rows_free fun A outer s H E hr hgd => ?_
  have hN := (sc_is_rows_free).nd
  have tk : Takes (cxOf (L2.CX P w) P w K mg base N_is_rows_free "is_rows_free" (defScope st_is_rows_free) T.a_is_rows_free (.ref (codeAt K T.a_is_rows_free)) A outer s H E) (fun cls d _ H => E cls d H) := takes_of rfl rfl rfl rfl
  have hp := passes_of (X := (cxOf (L2.CX P w) P w K mg base N_is_rows_free "is_rows_free" (defScope st_is_rows_free) T.a_is_rows_free (.ref (codeAt K T.a_is_rows_free)) A outer s H E)) rfl
  have hu := room_u hr
  have hu64 := room_v hr
  exact (ss_cons (ss_set (i := 1) hN (se_call ((g_whole_numbers T hC).mono (by decide)) hr hgd rfl T.g_whole_numbers T.k_whole_numbers (bd_whole_numbers T) tk (sa_cons (se_var 0) sa_nil)))
 (ss_cons (ss_for hp rfl (si_range1 rfl T.range (se_b1 (c_len) rfl T.len (by decide +kernel) (se_var 0))) (st_v 2 hN) (ss_cons (ss_set (i := 3) hN (se_compIf (own := [("row", 5)]) rfl hN (sic_seq (se_var 1)) (blkOk_by (by first | rfl | kernel_rfl)) (fun _ _ _ _ _ => (st_v 5 hN)) (fun _ _ _ _ _ => (sb_cmp (ok_ne hu64) (se_ix hu (se_var 5) (se_var 2)) se_int)) (fun _ _ _ _ _ => (se_var 5))))
 (ss_cons (ss_if (sb_cmp (ok_eq hu64) (se_var 3) (se_lst sa_nil)) (ss_one (ss_ret se_bl)) ss_nil)
 (ss_cons (ss_setCompIf (i := 4) (own := [("row", 5)]) rfl hN (sic_seq (se_var 1)) (blkOk_by (by first | rfl | kernel_rfl)) (fun _ _ _ _ _ => (st_v 5 hN)) (fun _ _ _ _ _ => (sb_cmp (ok_eq hu64) (se_ix hu (se_var 5) (se_var 2)) se_int)) (fun _ _ _ _ _ => (se_var 5)) (by first | rfl | kernel_rfl))
 (ss_one (ss_set (i := 1) hN (se_call ((g_whole_numbers T hC).mono (by decide)) hr hgd rfl T.g_whole_numbers T.k_whole_numbers (bd_whole_numbers T) tk (sa_cons (se_op ok_add (se_var 4) (se_comp (own := [("row", 5)]) rfl hN (sic_seq (se_slice (se_var 3) (so_some se_int) so_none)) (blkOk_by (by first | rfl | kernel_rfl)) (fun _ _ _ _ _ => (st_v 5 hN)) (fun _ _ _ _ _ => (se_call ((g_cleared T hC).mono (by decide)) hr hgd rfl T.g_cleared T.k_cleared (bd_cleared T) LamX.takes0 (sa_cons (se_var 5) (sa_cons (se_var 2) (sa_cons (se_ix hu (se_var 3) se_int) sa_nil))))))) sa_nil))))))))
 (ss_one (ss_ret se_bl))))

abbrev st_is_bar : Stmt := top 45
def N_is_bar : List Str := ["one", "other", "value", "wide", "near", "far", "polys", "degree", "poly", "place", "low", "high", "row"]
theorem sc_is_bar : FnScope N_is_bar ["one", "other", "value"] (defScope st_is_bar) := ⟨rfl, rfl, rfl, by decide +kernel, rfl, by decide +kernel, by decide +kernel⟩
theorem bd_is_bar {P : Program} {w : World} {K : PySem.W.Frag} {mg : Str → Option Value} {base : Heap} (T : Facts P w K mg base) : Binds K T.fd_is_bar ["one", "other", "value"] [] :=
  T.F_is_bar.bindsN fun _ _ _ _ _ _ us hl => match us, hl with | [_, _, _], _ => rfl
def b_is_bar : S :=
 (sSeq (sExpr (eCall m_need_step [(eVar 0)]))
 (sSeq (sExpr (eCall m_need_step [(eVar 1)]))
 (sSeq (sPar 4 5 (eCall m_as_poly [(eVar 0)]) (eCall m_as_poly [(eVar 1)]))
 (sSeq (sFreeze 5) (sSeq (sFreeze 4) (sSeq (sPar 6 7 (eCall m_all_powers [(eVar 4), (eVar 5)]) (eCall m_common_degree [(eVar 4), (eVar 5)]))
 (sSeq (sIf (eOr (eNot (eUn (oIs Ty.tuple) (eVar 2))) (eBin oNe (eUn oLen (eVar 2)) (eUn oLen (eVar 6))))
 (sRet (eVal (.bl false)))
 sPass)
 (sSeq (sFreeze 7) (sSeq (sIf (eBin oNe (eComp [9] (iSeqB (eVar 2)) (.v 9) (some (eNot (eCall m_is_from [(eVar 9), (eVal (.int 0)), (eVar 7)]))) (eVal (.int 1))) (eLst []))
 (sRet (eVal (.bl false)))
 sPass)
 (sSeq (sIf (eBin oNe (eComp [10, 11] (iZip2 (eVar 2) (eSlice (eVar 2) (some (eVal (.int 1))) none)) (.two (.v 10) (.v 11)) (some (eBin oGe (eVar 10) (eVar 11))) (eVal (.int 1))) (eLst []))
 (sRet (eVal (.bl false)))
 sPass)
 (sSeq (sAsg 3 (eComp [8] (iSeqB (eVar 6)) (.v 8) none (eBin oAdd (eBin oIx (eVar 8) (eVal (.int 0))) (eBin oMul (eLst [(eVal (.int 0))]) (eBin oSub (eBin oAdd (eVar 7) (eVal (.int 1))) (eUn oLen (eBin oIx (eVar 8) (eVal (.int 0)))))))))
 (sRet (eCall m_is_rows_free [(eComp [12] (iSeqB (eVar 3)) (.v 12) none (eComp [9] (iSeqB (eVar 2)) (.v 9) none (eBin oIx (eVar 12) (eVar 9))))])))))))))))))
def m_is_bar : Fn := fnOf 3 13 b_is_bar
theorem bk_is_bar {P : Program} {w : World} {K : PySem.W.Frag} {mg : Str → Option Value} {base : Heap} (T : Facts P w K mg base) (s : Shared) (ws : List Value) (_ : K.In s.heap) (hl : ws.length = 3) : BindsTo s T.fd_is_bar ⟨[], List.zip ["one", "other", "value"] ws⟩ (List.zip ["one", "other", "value"] ws) :=
  bindsK T.F_is_bar (fun _ _ _ _ _ _ ws hl => match ws, hl with | [_, _, _], _ => rfl) s ws hl
theorem g_is_bar {P : Program} {w : World} {K : PySem.W.Frag} {mg : Str → Option Value} {base : Heap} {C : Cs} (T : Facts P w K mg base) (hC : OkC T C) : FnG P w K mg base 5 T.a_is_bar T.fd_is_bar ["one", "other", "value"] (spF C m_is_bar) := by
  refine fn_body (k := 4) hC.ent T.F_is_bar sc_is_bar fun A outer s H E hr hgd => ?_
  have hN := (sc_is_bar).nd
  have tk : Takes (cxOf (L2.CX P w) P w K mg base N_is_bar "is_bar" (defScope st_is_bar) T.a_is_bar (.ref (codeAt K T.a_is_bar)) A outer s H E) (fun cls d _ H => E cls d H) := takes_of rfl rfl rfl rfl
  have hp := passes_of (X := (cxOf (L2.CX P w) P w K mg base N_is_bar "is_bar" (defScope st_is_bar) T.a_is_bar (.ref (codeAt K T.a_is_bar)) A outer s H E)) rfl
  have hu := room_u hr
  have hu64 := room_v hr
  exact (ss_cons (ss_expr (se_call ((g_need_step T hC).mono (by decide)) hr hgd rfl T.g_need_step T.k_need_step (bd_need_step T) tk (sa_cons (se_var 0) sa_nil)))
 (ss_cons (ss_expr (se_call ((g_need_step T hC).mono (by decide)) hr hgd rfl T.g_need_step T.k_need_step (bd_need_step T) tk (sa_cons (se_var 1) sa_nil)))
 (ss_cons (ss_par (i := 4) (j := 5) rfl hN (se_call ((g_as_poly T hC).mono (by decide)) hr hgd rfl T.g_as_poly T.k_as_poly (bd_as_poly T) tk (sa_cons (se_var 0) sa_nil)) (se_call ((g_as_poly T hC).mono (by decide)) hr hgd rfl T.g_as_poly T.k_as_poly (bd_as_poly T) tk (sa_cons (se_var 1) sa_nil)))
 (ss_freeze (i := 5) (ss_freeze (i := 4) (ss_cons (ss_parC (i := 6) (j := 7) rfl hN (se_call ((g_all_powers T hC).mono (by decide)) hr hgd rfl T.g_all_powers T.k_all_powers (bd_all_powers T) tk (sa_cons (se_var 4) (sa_cons (se_var 5) sa_nil))) (se_call ((g_common_degree T hC).mono (by decide)) hr hgd rfl T.g_common_degree T.k_common_degree (bd_common_degree T) tk (sa_cons (se_var 4) (sa_cons (se_var 5) sa_nil))))
 (ss_cons (ss_if (sb_w (sbw_or (sb_not (sb_val (se_isi (x := "") Ty.tuple rfl T.isinstance rfl T.tuple (by decide +kernel) (se_var 2)))) (sbw_one_or (sb_cmp (ok_ne hu64) (se_b1 (c_len) rfl T.len (by decide +kernel) (se_var 2)) (se_b1 (c_len) rfl T.len (by decide +kernel) (se_var 6)))))) (ss_one (ss_ret se_bl)) ss_nil)
 (ss_freeze (i := 7) (ss_cons (ss_if (sb_cmp (ok_ne hu64) (se_compIf (own := [("place", 9)]) rfl hN (sic_seq (se_var 2)) (blkOk_by (by first | rfl | kernel_rfl)) (fun _ _ _ _ _ => (st_v 9 hN)) (fun _ _ _ _ _ => (sb_not (sb_val (se_call ((g_is_from T hC).mono (by decide)) hr hgd rfl T.g_is_from T.k_is_from (bd_is_from T) LamX.takes0 (sa_cons (se_var 9) (sa_cons se_int (sa_cons (se_var 7) sa_nil))))))) (fun _ _ _ _ _ => se_int)) (se_lst sa_nil)) (ss_one (ss_ret se_bl)) ss_nil)
 (ss_cons (ss_if (sb_cmp (ok_ne hu64) (se_compIf (own := [("low", 10), ("high", 11)]) rfl hN (sic_of (si_zip2 rfl T.zip (se_var 2) (se_slice (se_var 2) (so_some se_int) so_none))) (blkOk_by (by first | rfl | kernel_rfl)) (fun _ _ _ _ _ => (st_two rfl (st_v 10 hN) (st_v 11 hN))) (fun _ _ _ _ _ => (sb_cmp ok_ge (se_var 10) (se_var 11))) (fun _ _ _ _ _ => se_int)) (se_lst sa_nil)) (ss_one (ss_ret se_bl)) ss_nil)
 (ss_cons (ss_setComp (i := 3) (own := [("poly", 8)]) rfl hN (sic_seq (se_var 6)) (blkOk_by (by first | rfl | kernel_rfl)) (fun _ _ _ _ _ => (st_v 8 hN)) (fun _ _ _ _ _ => (se_op ok_add (se_ix hu (se_var 8) se_int) (se_op ok_mul (se_lst (sa_cons se_int sa_nil)) (se_op ok_sub (se_op ok_add (se_var 7) se_int) (se_b1 (c_len) rfl T.len (by decide +kernel) (se_ix hu (se_var 8) se_int)))))) (by first | rfl | kernel_rfl))
 (ss_one (ss_ret (se_call ((g_is_rows_free T hC).mono (by decide)) hr hgd rfl T.g_is_rows_free T.k_is_rows_free (bd_is_rows_free T) tk (sa_cons (se_comp (own := [("row", 12)]) rfl hN (sic_seq (se_var 3)) (blkOk_by (by first | rfl | kernel_rfl)) (fun _ _ _ _ _ => (st_v 12 hN)) (fun _ _ _ _ _ => (se_comp (own := [("place", 9)]) rfl hN (sic_seq (se_var 2)) (blkOk_by (by first | rfl | kernel_rfl)) (fun _ _ _ _ _ => (st_v 9 hN)) (fun _ _ _ _ _ => (se_ix hu (se_var 12) (se_var 9)))))) sa_nil)))))))))))))))

abbrev st__law_named : Stmt := top 60
def N__law_named : List Str := ["_law_got", "_law_two", "_law_three", "_law_bent"]
theorem sc__law_named : FnScope N__law_named [] (defScope st__law_named) := ⟨rfl, rfl, rfl, by decide +kernel, rfl, by decide +kernel, by decide +kernel⟩
theorem bd__law_named {P : Program} {w : World} {K : PySem.W.Frag} {mg : Str → Option Value} {base : Heap} (T : Facts P w K mg base) : Binds K T.fd__law_named [] [] :=
  T.F__law_named.bindsN fun _ _ _ _ _ _ us hl => match us, hl with | [], _ => rfl
def b__law_named : S :=
 (sSeq (sUnp (.three (.v 1) (.v 2) (.v 3)) (eTup [(eCall m__law_power [(eVal (.int 2))]), (eCall m__law_power [(eVal (.int 3))]), (eTup [(eTup [(eVal (.int 0)), (eVal (.int 1))]), (eTup [(eVal (.int 1)), (eVal (.int 1))]), (eTup [(eVal (.int 1)), (eVal (.int 1))]), (eTup [(eVal (.int 1)), (eVal (.int 1))])])]))
 (sSeq (sAsg 0 (eLst [(eCall m_common_whole [(eVar 1), (eVar 2)]), (eCall m_are_joined [(eVar 1), (eVar 2)]), (eCall m_are_joined [(eVar 1), (eVar 3)])]))
 (sSeq (sMutL 0 mAppend (eLam (fnTh 4 b__law_refusal) (eCall m_bar_places [(eVar 1), (eVar 2)])))
 (sSeq (sMutL 0 mAppend (eCall m_is_bar [(eVar 1), (eVar 3), (eTup [(eVal (.int 0)), (eVal (.int 2)), (eVal (.int 3)), (eVal (.int 4)), (eVal (.int 5)), (eVal (.int 6))])]))
 (sSeq (sFreeze 2) (sSeq (sFreeze 1) (sSeq (sFreeze 0) (sRet (eCall m__law_like [(eVar 0), (eLst [(eTup [(eVar 2), (eVar 1), (eCall m__law_power [(eVal (.int 6))])]), (eVal (.bl true)), (eVal (.bl false)), (eTup [(eVal (.str "no row"))]), (eVal (.bl true))])])))))))))
def m__law_named : Fn := fnOf 0 4 b__law_named
theorem mem__law_named {P : Program} {w : World} {K : PySem.W.Frag} {mg : Str → Option Value} {base : Heap} {C : Cs} (T : Facts P w K mg base) (hC : OkC T C) : (T.l__law_named, ((("_law_named" : Str) ++ ".<locals>.") ++ "<lambda>" : Str)) ∈ C.T := by
  rw [hC.tab]
  exact (List.Mem.head _)
theorem g__law_named {P : Program} {w : World} {K : PySem.W.Frag} {mg : Str → Option Value} {base : Heap} {C : Cs} (T : Facts P w K mg base) (hC : OkC T C) : FnG P w K mg base 8 T.a__law_named T.fd__law_named [] (spF C m__law_named) := by
  refine fn_body (k := 7) hC.ent T.F__law_named sc__law_named fun A outer s H E hr hgd => ?_
  have hN := (sc__law_named).nd
  have tk : Takes (cxOf (L2.CX P w) P w K mg base N__law_named "_law_named" (defScope st__law_named) T.a__law_named (.ref (codeAt K T.a__law_named)) A outer s H E) (fun cls d _ H => E cls d H) := takes_of rfl rfl rfl rfl
  have hp := passes_of (X := (cxOf (L2.CX P w) P w K mg base N__law_named "_law_named" (defScope st__law_named) T.a__law_named (.ref (codeAt K T.a__law_named)) A outer s H E)) rfl
  have hu := room_u hr
  have hu64 := room_v hr
  exact (ss_cons (ss_unp (se_tup (sa_cons (se_call ((g__law_power T hC).mono (by decide)) hr hgd rfl T.g__law_power T.k__law_power (bd__law_power T) tk (sa_cons se_int sa_nil)) (sa_cons (se_call ((g__law_power T hC).mono (by decide)) hr hgd rfl T.g__law_power T.k__law_power (bd__law_power T) tk (sa_cons se_int sa_nil)) (sa_cons (se_tup (sa_cons (se_tup (sa_cons se_int (sa_cons se_int sa_nil))) (sa_cons (se_tup (sa_cons se_int (sa_cons se_int sa_nil))) (sa_cons (se_tup (sa_cons se_int (sa_cons se_int sa_nil))) (sa_cons (se_tup (sa_cons se_int (sa_cons se_int sa_nil))) sa_nil))))) sa_nil)))) (st_three rfl (st_v 1 hN) (st_v 2 hN) (st_v 3 hN)))
 (ss_cons (ss_set (i := 0) hN (se_lst (sa_cons (se_callK ((g_common_whole T hC).mono (by decide)) hr hgd rfl T.g_common_whole T.k_common_whole (bk_common_whole T) tk (sk_cons (se_var 1) (sk_cons (se_var 2) sk_nil))) (sa_cons (se_callK ((g_are_joined T hC).mono (by decide)) hr hgd rfl T.g_are_joined T.k_are_joined (bk_are_joined T) tk (sk_cons (se_var 1) (sk_cons (se_var 2) sk_nil))) (sa_cons (se_callK ((g_are_joined T hC).mono (by decide)) hr hgd rfl T.g_are_joined T.k_are_joined (bk_are_joined T) tk (sk_cons (se_var 1) (sk_cons (se_var 3) sk_nil))) sa_nil)))))
 (ss_cons (ss_append (i := 0) (se_lam (N := N__law_refusal) (st := st__law_refusal) (qual := "_law_refusal") (m := b__law_refusal) (k := 5) (by rw [hC.fns]; rfl) T.F__law_refusal sc__law_refusal rfl (Or.inl rfl) rfl T.g__law_refusal T.k__law_refusal (bd__law_refusal T) (fun cdv s F H th fa c' q hr hgd hth => gb__law_refusal T hC hr hgd hth) T.tb__law_named rfl (mem__law_named T hC) (hC.uniq (mem__law_named T hC)) hr hgd (LamX.lamS_by (by first | rfl | kernel_rfl)) rfl (fun _ _ _ _ _ => rfl) (fun A' outer' s' H' E' fa' c'' hr hgd => by
    have hu := room_u hr
    have hu64 := room_v hr
    exact (se_callK ((g_bar_places T hC).mono (by decide)) hr hgd rfl T.g_bar_places T.k_bar_places (bk_bar_places T) (takes_of rfl rfl rfl rfl) (sk_cons (se_var 1) (sk_cons (se_var 2) sk_nil))))))
 (ss_cons (ss_append (i := 0) (se_callK ((g_is_bar T hC).mono (by decide)) hr hgd rfl T.g_is_bar T.k_is_bar (bk_is_bar T) tk (sk_cons (se_var 1) (sk_cons (se_var 3) (sk_cons (se_tup (sa_cons se_int (sa_cons se_int (sa_cons se_int (sa_cons se_int (sa_cons se_int (sa_cons se_int sa_nil))))))) sk_nil)))))
 (ss_freeze (i := 2) (ss_freeze (i := 1) (ss_freeze (i := 0) (ss_one (ss_ret (se_call ((g__law_like T hC).mono (by decide)) hr hgd rfl T.g__law_like T.k__law_like (bd__law_like T) tk (sa_cons (se_var 0) (sa_cons (se_lst (sa_cons (se_tup (sa_cons (se_var 2) (sa_cons (se_var 1) (sa_cons (se_call ((g__law_power T hC).mono (by decide)) hr hgd rfl T.g__law_power T.k__law_power (bd__law_power T) tk (sa_cons se_int sa_nil)) sa_nil)))) (sa_cons se_bl (sa_cons se_bl (sa_cons (se_tup (sa_cons se_str sa_nil)) (sa_cons se_bl sa_nil)))))) sa_nil))))))))))))

abbrev st__law_divisor : Stmt := top 54
def N__law_divisor : List Str := ["_law_near", "_law_far"]
theorem sc__law_divisor : FnScope N__law_divisor ["_law_near", "_law_far"] (defScope st__law_divisor) := ⟨rfl, rfl, rfl, by decide +kernel, rfl, by decide +kernel, by decide +kernel⟩
theorem bd__law_divisor {P : Program} {w : World} {K : PySem.W.Frag} {mg : Str → Option Value} {base : Heap} (T : Facts P w K mg base) : Binds K T.fd__law_divisor ["_law_near", "_law_far"] [] :=
  T.F__law_divisor.bindsN fun _ _ _ _ _ _ us hl => match us, hl with | [_, _], _ => rfl
def b__law_divisor : S :=
 (sSeq (sPar 0 1 (eBin oMax2 (eVar 0) (eUn oNeg (eVar 0))) (eBin oMax2 (eVar 1) (eUn oNeg (eVar 1))))
 (sSeq (sWhile (eBin oGt (eVar 1) (eVal (.int 0)))
 (sPar 0 1 (eVar 1) (eBin oMod (eVar 0) (eVar 1))))
 (sRetV 0)))
def m__law_divisor : Fn := fnOf 2 2 b__law_divisor
theorem g__law_divisor {P : Program} {w : World} {K : PySem.W.Frag} {mg : Str → Option Value} {base : Heap} {C : Cs} (T : Facts P w K mg base) (hC : OkC T C) : FnG P w K mg base 1 T.a__law_divisor T.fd__law_divisor ["_law_near", "_law_far"] (spF C m__law_divisor) := by
  refine fn_body (k := 0) hC.ent T.F__law_divisor sc__law_divisor fun A outer s H E hr hgd => ?_
  have hN := (sc__law_divisor).nd
  have tk : Takes (cxOf (L2.CX P w) P w K mg base N__law_divisor "_law_divisor" (defScope st__law_divisor) T.a__law_divisor (.ref (codeAt K T.a__law_divisor)) A outer s H E) (fun cls d _ H => E cls d H) := takes_of rfl rfl rfl rfl
  have hp := passes_of (X := (cxOf (L2.CX P w) P w K mg base N__law_divisor "_law_divisor" (defScope st__law_divisor) T.a__law_divisor (.ref (codeAt K T.a__law_divisor)) A outer s H E)) rfl
  have hu := room_u hr
  have hu64 := room_v hr
  exact (ss_cons (ss_par (i := 0) (j := 1) rfl hN (se_b2 (c_max2 rfl) rfl T.max (by decide +kernel) (se_var 0) (se_neg (se_var 0))) (se_b2 (c_max2 rfl) rfl T.max (by decide +kernel) (se_var 1) (se_neg (se_var 1))))
 (ss_cons (ss_while hp (sb_cmp ok_gt (se_var 1) se_int) (ss_one (ss_par (i := 0) (j := 1) rfl hN (se_var 1) (se_op ok_mod (se_var 0) (se_var 1)))))
 (ss_one (ss_retV (i := 0)))))

abbrev st__law_mixed : Stmt := top 48
def N__law_mixed : List Str := ["_law_cell", "_law_k"]
theorem sc__law_mixed : FnScope N__law_mixed ["_law_cell", "_law_k"] (defScope st__law_mixed) := ⟨rfl, rfl, rfl, by decide +kernel, rfl, by decide +kernel, by decide +kernel⟩
theorem bd__law_mixed {P : Program} {w : World} {K : PySem.W.Frag} {mg : Str → Option Value} {base : Heap} (T : Facts P w K mg base) : Binds K T.fd__law_mixed ["_law_cell", "_law_k"] [] :=
  T.F__law_mixed.bindsN fun _ _ _ _ _ _ us hl => match us, hl with | [_, _], _ => rfl
def b__law_mixed : S :=
 (sSeq (sAsg 0 (eBin oMod (eUn oInt (eVar 0)) (eVal (.int 2147483647))))
 (sRet (eBin oMod (eBin oMul (eBin oMod (eBin oAdd (eBin oAdd (eBin oMul (eVar 0) (eBin oAdd (eVal (.int 48271)) (eBin oMul (eBin oMul (eVal (.int 2)) (eVar 1)) (eVar 1)))) (eBin oMul (eVal (.int 69621)) (eVar 1))) (eVal (.int 11))) (eVal (.int 2147483647))) (eVal (.int 69621))) (eVal (.int 2147483629)))))
def m__law_mixed : Fn := fnOf 2 2 b__law_mixed
theorem g__law_mixed {P : Program} {w : World} {K : PySem.W.Frag} {mg : Str → Option Value} {base : Heap} {C : Cs} (T : Facts P w K mg base) (hC : OkC T C) : FnG P w K mg base 1 T.a__law_mixed T.fd__law_mixed ["_law_cell", "_law_k"] (spF C m__law_mixed) := by
  refine fn_body (k := 0) hC.ent T.F__law_mixed sc__law_mixed fun A outer s H E hr hgd => ?_
  have hN := (sc__law_mixed).nd
  have tk : Takes (cxOf (L2.CX P w) P w K mg base N__law_mixed "_law_mixed" (defScope st__law_mixed) T.a__law_mixed (.ref (codeAt K T.a__law_mixed)) A outer s H E) (fun cls d _ H => E cls d H) := takes_of rfl rfl rfl rfl
  have hp := passes_of (X := (cxOf (L2.CX P w) P w K mg base N__law_mixed "_law_mixed" (defScope st__law_mixed) T.a__law_mixed (.ref (codeAt K T.a__law_mixed)) A outer s H E)) rfl
  have hu := room_u hr
  have hu64 := room_v hr
  exact (ss_cons (ss_set (i := 0) hN (se_op ok_mod (se_t1 (c_int) rfl T.int (by decide +kernel) (se_var 0)) se_int))
 (ss_one (ss_ret (se_op ok_mod (se_op ok_mul (se_op ok_mod (se_op ok_add (se_op ok_add (se_op ok_mul (se_var 0) (se_op ok_add se_int (se_op ok_mul (se_op ok_mul se_int (se_var 1)) (se_var 1)))) (se_op ok_mul se_int (se_var 1))) se_int) se_int) se_int) se_int))))

abbrev st__law_draw : Stmt := top 50
def N__law_draw : List Str := ["_law_state", "_law_limit", "_law_at", "_law_place", "_law_left", "_law_number_here"]
theorem sc__law_draw : FnScope N__law_draw ["_law_state", "_law_limit"] (defScope st__law_draw) := ⟨rfl, rfl, rfl, by decide +kernel, rfl, by decide +kernel, by decide +kernel⟩
theorem bd__law_draw {P : Program} {w : World} {K : PySem.W.Frag} {mg : Str → Option Value} {base : Heap} (T : Facts P w K mg base) : Binds K T.fd__law_draw ["_law_state", "_law_limit"] [] :=
  T.F__law_draw.bindsN fun _ _ _ _ _ _ us hl => match us, hl with | [_, _], _ => rfl
def b__law_draw : S :=
 (sSeq (sAsg 2 (eStAt 0))
 (sSeq (sStAt 0 (eBin oAdd (eVar 2) (eVal (.int 1))))
 (sSeq (sAsg 3 (eBin oMod (eUn oInt (eVar 2)) (eStLen 0)))
 (sSeq (sAsg 4 (eStRow true 0 (eVar 3)))
 (sSeq (sIf (eBin oGt (eVar 4) (eVal (.int 0)))
 (sSeq (sStLeft 0 (eVar 3) (eBin oDiv (eVar 4) (eVar 1)))
 (sRet (eBin oMod (eUn oInt (eVar 4)) (eVar 1))))
 sPass)
 (sSeq (sAsg 5 (eCall m__law_mixed [(eCall m__law_mixed [(eStRow false 0 (eVar 3)), (eVar 2)]), (eBin oAdd (eVal (.int 40)) (eVar 2))]))
 (sSeq (sFreeze 5) (sRet (eBin oMod (eBin oDiv (eUn oInt (eBin oAdd (eBin oMul (eVar 5) (eVal (.int 2147483647))) (eCall m__law_mixed [(eVar 5), (eBin oAdd (eVal (.int 7)) (eVar 2))]))) (eVal (.int 64))) (eVar 1))))))))))
def m__law_draw : Fn := fnOf 2 6 b__law_draw
theorem g__law_draw {P : Program} {w : World} {K : PySem.W.Frag} {mg : Str → Option Value} {base : Heap} {C : Cs} (T : Facts P w K mg base) (hC : OkC T C) : FnG P w K mg base 2 T.a__law_draw T.fd__law_draw ["_law_state", "_law_limit"] (spF C m__law_draw) := by
  refine fn_body (k := 1) hC.ent T.F__law_draw sc__law_draw fun A outer s H E hr hgd => ?_
  have hN := (sc__law_draw).nd
  have tk : Takes (cxOf (L2.CX P w) P w K mg base N__law_draw "_law_draw" (defScope st__law_draw) T.a__law_draw (.ref (codeAt K T.a__law_draw)) A outer s H E) (fun cls d _ H => E cls d H) := takes_of rfl rfl rfl rfl
  have hp := passes_of (X := (cxOf (L2.CX P w) P w K mg base N__law_draw "_law_draw" (defScope st__law_draw) T.a__law_draw (.ref (codeAt K T.a__law_draw)) A outer s H E)) rfl
  have hu := room_u hr
  have hu64 := room_v hr
  exact (ss_cons (ss_set (i := 2) hN (se_stAt (i := 0) hu))
 (ss_cons (ss_stAt (i := 0) hu (se_op ok_add (se_var 2) se_int))
 (ss_cons (ss_set (i := 3) hN (se_op ok_mod (se_t1 (c_int) rfl T.int (by decide +kernel) (se_var 2)) (se_stLen (i := 0) hu rfl T.len)))
 (ss_cons (ss_set (i := 4) hN (se_stRow (i := 0) true rfl hu (se_var 3)))
 (ss_cons (ss_if (sb_cmp ok_gt (se_var 4) se_int) (ss_cons (ss_stLeft (i := 0) (se_op ok_div (se_var 4) (se_var 1)) (hg := pg_sub (pe_dget (u1 hu) (pe_var rfl (Or.inl rfl)) pe_str (by exact fun _ _ => rfl)) (se_var 3) set_list))
 (ss_one (ss_ret (se_op ok_mod (se_t1 (c_int) rfl T.int (by decide +kernel) (se_var 4)) (se_var 1))))) ss_nil)
 (ss_cons (ss_set (i := 5) hN (se_call ((g__law_mixed T hC).mono (by decide)) hr hgd rfl T.g__law_mixed T.k__law_mixed (bd__law_mixed T) tk (sa_cons (se_call ((g__law_mixed T hC).mono (by decide)) hr hgd rfl T.g__law_mixed T.k__law_mixed (bd__law_mixed T) tk (sa_cons (se_stRow (i := 0) false rfl hu (se_var 3)) (sa_cons (se_var 2) sa_nil))) (sa_cons (se_op ok_add se_int (se_var 2)) sa_nil))))
 (ss_freeze (i := 5) (ss_one (ss_ret (se_op ok_mod (se_op ok_div (se_t1 (c_int) rfl T.int (by decide +kernel) (se_op ok_add (se_op ok_mul (se_var 5) se_int) (se_call ((g__law_mixed T hC).mono (by decide)) hr hgd rfl T.g__law_mixed T.k__law_mixed (bd__law_mixed T) tk (sa_cons (se_var 5) (sa_cons (se_op ok_add se_int (se_var 2)) sa_nil))))) se_int) (se_var 1)))))))))))

abbrev st__law_powers : Stmt := top 59
def N__law_powers : List Str := ["_law_state", "_law_shared", "_law_due", "_law_got", "_law_told", "_law_many", "_law_size", "_law_more"]
theorem sc__law_powers : FnScope N__law_powers ["_law_state"] (defScope st__law_powers) := ⟨rfl, rfl, rfl, by decide +kernel, rfl, by decide +kernel, by decide +kernel⟩
theorem bd__law_powers {P : Program} {w : World} {K : PySem.W.Frag} {mg : Str → Option Value} {base : Heap} (T : Facts P w K mg base) : Binds K T.fd__law_powers ["_law_state"] [] :=
  T.F__law_powers.bindsN fun _ _ _ _ _ _ us hl => match us, hl with | [_], _ => rfl
def b__law_powers : S :=
 (sSeq (sPar 6 7 (eBin oAdd (eVal (.int 1)) (eCall m__law_draw [(eVar 0), (eVal (.int 16))])) (eBin oAdd (eVal (.int 1)) (eCall m__law_draw [(eVar 0), (eVal (.int 16))])))
 (sSeq (sFreeze 7) (sSeq (sFreeze 6) (sSeq (sAsg 1 (eCall m__law_divisor [(eVar 6), (eVar 7)]))
 (sSeq (sAsg 2 (eTup [(eCall m__law_power [(eBin oDiv (eVar 7) (eVar 1))]), (eCall m__law_power [(eBin oDiv (eVar 6) (eVar 1))]), (eCall m__law_power [(eBin oDiv (eBin oMul (eVar 6) (eVar 7)) (eVar 1))])]))
 (sSeq (sIf (eBin oGt (eBin oDiv (eBin oMul (eVar 6) (eVar 7)) (eVar 1)) (eVal (.int 30)))
 (sRet (eVal (.bl true)))
 sPass)
 (sSeq (sFreeze 7) (sSeq (sFreeze 6) (sSeq (sAsg 3 (eLst [(eCall m_common_whole [(eCall m__law_power [(eVar 6)]), (eCall m__law_power [(eVar 7)])]), (eCall m_are_joined [(eCall m__law_power [(eVar 6)]), (eCall m__law_power [(eVar 7)])])]))
 (sSeq (sFreeze 3) (sSeq (sIf (eNot (eCall m__law_like [(eVar 3), (eLst [(eVar 2), (eVal (.bl true))])]))
 (sRet (eVal (.bl false)))
 sPass)
 (sSeq (sFreeze 7) (sSeq (sFreeze 6) (sSeq (sAsg 4 (eLam (fnTh 4 b__law_refusal) (eCall m_bar_places [(eCall m__law_power [(eVar 6)]), (eCall m__law_power [(eVar 7)])])))
 (sSeq (sAsg 5 (eBin oAdd (eBin oAdd (eBin oDiv (eVar 6) (eVar 1)) (eBin oDiv (eVar 7) (eVar 1))) (eVal (.int 1))))
 (sSeq (sFreeze 7) (sSeq (sFreeze 6) (sRet (eAnd (eBin oEq (eVar 4) (eTup [(eVal (.str "no row"))])) (eBin oIsBl (eCall m_is_bar [(eCall m__law_power [(eVar 6)]), (eCall m__law_power [(eVar 7)]), (eTupRg (eVar 5))]) (eVal (.bl false))))))))))))))))))))))
def m__law_powers : Fn := fnOf 1 8 b__law_powers
theorem mem__law_powers {P : Program} {w : World} {K : PySem.W.Frag} {mg : Str → Option Value} {base : Heap} {C : Cs} (T : Facts P w K mg base) (hC : OkC T C) : (T.l__law_powers, ((("_law_powers" : Str) ++ ".<locals>.") ++ "<lambda>" : Str)) ∈ C.T := by
  rw [hC.tab]
  exact (List.Mem.tail _ (List.Mem.head _))
theorem g__law_powers {P : Program} {w : World} {K : PySem.W.Frag} {mg : Str → Option Value} {base : Heap} {C : Cs} (T : Facts P w K mg base) (hC : OkC T C) : FnG P w K mg base 8 T.a__law_powers T.fd__law_powers ["_law_state"] (spF C m__law_powers) := by
  refine fn_body (k := 7) hC.ent T.F__law_powers sc__law_powers fun A outer s H E hr hgd => ?_
  have hN := (sc__law_powers).nd
  have tk : Takes (cxOf (L2.CX P w) P w K mg base N__law_powers "_law_powers" (defScope st__law_powers) T.a__law_powers (.ref (codeAt K T.a__law_powers)) A outer s H E) (fun cls d _ H => E cls d H) := takes_of rfl rfl rfl rfl
  have hp := passes_of (X := (cxOf (L2.CX P w) P w K mg base N__law_powers "_law_powers" (defScope st__law_powers) T.a__law_powers (.ref (codeAt K T.a__law_powers)) A outer s H E)) rfl
  have hu := room_u hr
  have hu64 := room_v hr
  exact (ss_cons (ss_parC (i := 6) (j := 7) rfl hN (se_op ok_add se_int (se_call ((g__law_draw T hC).mono (by decide)) hr hgd rfl T.g__law_draw T.k__law_draw (bd__law_draw T) tk (sa_cons (se_var 0) (sa_cons se_int sa_nil)))) (se_op ok_add se_int (se_call ((g__law_draw T hC).mono (by decide)) hr hgd rfl T.g__law_draw T.k__law_draw (bd__law_draw T) tk (sa_cons (se_var 0) (sa_cons se_int sa_nil)))))
 (ss_freeze (i := 7) (ss_freeze (i := 6) (ss_cons (ss_set (i := 1) hN (se_call ((g__law_divisor T hC).mono (by decide)) hr hgd rfl T.g__law_divisor T.k__law_divisor (bd__law_divisor T) tk (sa_cons (se_var 6) (sa_cons (se_var 7) sa_nil))))
 (ss_cons (ss_set (i := 2) hN (se_tup (sa_cons (se_call ((g__law_power T hC).mono (by decide)) hr hgd rfl T.g__law_power T.k__law_power (bd__law_power T) tk (sa_cons (se_op ok_div (se_var 7) (se_var 1)) sa_nil)) (sa_cons (se_call ((g__law_power T hC).mono (by decide)) hr hgd rfl T.g__law_power T.k__law_power (bd__law_power T) tk (sa_cons (se_op ok_div (se_var 6) (se_var 1)) sa_nil)) (sa_cons (se_call ((g__law_power T hC).mono (by decide)) hr hgd rfl T.g__law_power T.k__law_power (bd__law_power T) tk (sa_cons (se_op ok_div (se_op ok_mul (se_var 6) (se_var 7)) (se_var 1)) sa_nil)) sa_nil)))))
 (ss_cons (ss_if (sb_cmp ok_gt (se_op ok_div (se_op ok_mul (se_var 6) (se_var 7)) (se_var 1)) se_int) (ss_one (ss_ret se_bl)) ss_nil)
 (ss_freeze (i := 7) (ss_freeze (i := 6) (ss_cons (ss_set (i := 3) hN (se_lst (sa_cons (se_call ((g_common_whole T hC).mono (by decide)) hr hgd rfl T.g_common_whole T.k_common_whole (bd_common_whole T) tk (sa_cons (se_call ((g__law_power T hC).mono (by decide)) hr hgd rfl T.g__law_power T.k__law_power (bd__law_power T) tk (sa_cons (se_var 6) sa_nil)) (sa_cons (se_call ((g__law_power T hC).mono (by decide)) hr hgd rfl T.g__law_power T.k__law_power (bd__law_power T) tk (sa_cons (se_var 7) sa_nil)) sa_nil))) (sa_cons (se_call ((g_are_joined T hC).mono (by decide)) hr hgd rfl T.g_are_joined T.k_are_joined (bd_are_joined T) tk (sa_cons (se_call ((g__law_power T hC).mono (by decide)) hr hgd rfl T.g__law_power T.k__law_power (bd__law_power T) tk (sa_cons (se_var 6) sa_nil)) (sa_cons (se_call ((g__law_power T hC).mono (by decide)) hr hgd rfl T.g__law_power T.k__law_power (bd__law_power T) tk (sa_cons (se_var 7) sa_nil)) sa_nil))) sa_nil))))
 (ss_freeze (i := 3) (ss_cons (ss_if (sb_not (sb_val (se_call ((g__law_like T hC).mono (by decide)) hr hgd rfl T.g__law_like T.k__law_like (bd__law_like T) tk (sa_cons (se_var 3) (sa_cons (se_lst (sa_cons (se_var 2) (sa_cons se_bl sa_nil))) sa_nil))))) (ss_one (ss_ret se_bl)) ss_nil)
 (ss_freeze (i := 7) (ss_freeze (i := 6) (ss_cons (ss_set (i := 4) hN (se_lam (N := N__law_refusal) (st := st__law_refusal) (qual := "_law_refusal") (m := b__law_refusal) (k := 5) (by rw [hC.fns]; rfl) T.F__law_refusal sc__law_refusal rfl (Or.inl rfl) rfl T.g__law_refusal T.k__law_refusal (bd__law_refusal T) (fun cdv s F H th fa c' q hr hgd hth => gb__law_refusal T hC hr hgd hth) T.tb__law_powers rfl (mem__law_powers T hC) (hC.uniq (mem__law_powers T hC)) hr hgd (LamX.lamS_by (by first | rfl | kernel_rfl)) rfl (fun _ _ _ _ _ => rfl) (fun A' outer' s' H' E' fa' c'' hr hgd => by
    have hu := room_u hr
    have hu64 := room_v hr
    exact (se_call ((g_bar_places T hC).mono (by decide)) hr hgd rfl T.g_bar_places T.k_bar_places (bd_bar_places T) (takes_of rfl rfl rfl rfl) (sa_cons (se_call ((g__law_power T hC).mono (by decide)) hr hgd rfl T.g__law_power T.k__law_power (bd__law_power T) (takes_of rfl rfl rfl rfl) (sa_cons (se_var 6) sa_nil)) (sa_cons (se_call ((g__law_power T hC).mono (by decide)) hr hgd rfl T.g__law_power T.k__law_power (bd__law_power T) (takes_of rfl rfl rfl rfl) (sa_cons (se_var 7) sa_nil)) sa_nil))))))
 (ss_cons (ss_set (i := 5) hN (se_op ok_add (se_op ok_add (se_op ok_div (se_var 6) (se_var 1)) (se_op ok_div (se_var 7) (se_var 1))) se_int))
 (ss_freeze (i := 7) (ss_freeze (i := 6) (ss_one (ss_ret (se_and (se_cmp (ok_eq hu64) (se_var 4) (se_tup (sa_cons se_str sa_nil))) (se_one (se_cmp ok_isBl (se_call ((g_is_bar T hC).mono (by decide)) hr hgd rfl T.g_is_bar T.k_is_bar (bd_is_bar T) tk (sa_cons (se_call ((g__law_power T hC).mono (by decide)) hr hgd rfl T.g__law_power T.k__law_power (bd__law_power T) tk (sa_cons (se_var 6) sa_nil)) (sa_cons (se_call ((g__law_power T hC).mono (by decide)) hr hgd rfl T.g__law_power T.k__law_power (bd__law_power T) tk (sa_cons (se_var 7) sa_nil)) (sa_cons (se_tupRg rfl rfl T.tuple rfl T.range (se_var 5)) sa_nil)))) se_bl))))))))))))))))))))))

abbrev st__law_of : Stmt := top 51
def N__law_of : List Str := ["_law_state", "_law_some"]
theorem sc__law_of : FnScope N__law_of ["_law_state", "_law_some"] (defScope st__law_of) := ⟨rfl, rfl, rfl, by decide +kernel, rfl, by decide +kernel, by decide +kernel⟩
theorem bd__law_of {P : Program} {w : World} {K : PySem.W.Frag} {mg : Str → Option Value} {base : Heap} (T : Facts P w K mg base) : Binds K T.fd__law_of ["_law_state", "_law_some"] [] :=
  T.F__law_of.bindsN fun _ _ _ _ _ _ us hl => match us, hl with | [_, _], _ => rfl
def b__law_of : S :=
 (sRet (eBin oIx (eVar 1) (eCall m__law_draw [(eVar 0), (eUn oLen (eVar 1))])))
def m__law_of : Fn := fnOf 2 2 b__law_of
theorem g__law_of {P : Program} {w : World} {K : PySem.W.Frag} {mg : Str → Option Value} {base : Heap} {C : Cs} (T : Facts P w K mg base) (hC : OkC T C) : FnG P w K mg base 3 T.a__law_of T.fd__law_of ["_law_state", "_law_some"] (spF C m__law_of) := by
  refine fn_body (k := 2) hC.ent T.F__law_of sc__law_of fun A outer s H E hr hgd => ?_
  have hN := (sc__law_of).nd
  have tk : Takes (cxOf (L2.CX P w) P w K mg base N__law_of "_law_of" (defScope st__law_of) T.a__law_of (.ref (codeAt K T.a__law_of)) A outer s H E) (fun cls d _ H => E cls d H) := takes_of rfl rfl rfl rfl
  have hp := passes_of (X := (cxOf (L2.CX P w) P w K mg base N__law_of "_law_of" (defScope st__law_of) T.a__law_of (.ref (codeAt K T.a__law_of)) A outer s H E)) rfl
  have hu := room_u hr
  have hu64 := room_v hr
  exact (ss_one (ss_ret (se_ix hu (se_var 1) (se_call ((g__law_draw T hC).mono (by decide)) hr hgd rfl T.g__law_draw T.k__law_draw (bd__law_draw T) tk (sa_cons (se_var 0) (sa_cons (se_b1 (c_len) rfl T.len (by decide +kernel) (se_var 1)) sa_nil))))))

abbrev st__law_frac : Stmt := top 55
def N__law_frac : List Str := ["_law_above", "_law_below", "_law_shared"]
theorem sc__law_frac : FnScope N__law_frac ["_law_above", "_law_below"] (defScope st__law_frac) := ⟨rfl, rfl, rfl, by decide +kernel, rfl, by decide +kernel, by decide +kernel⟩
theorem bd__law_frac {P : Program} {w : World} {K : PySem.W.Frag} {mg : Str → Option Value} {base : Heap} (T : Facts P w K mg base) : Binds K T.fd__law_frac ["_law_above", "_law_below"] [] :=
  T.F__law_frac.bindsN fun _ _ _ _ _ _ us hl => match us, hl with | [_, _], _ => rfl
def b__law_frac : S :=
 (sSeq (sAsg 2 (eCall m__law_divisor [(eVar 0), (eVar 1)]))
 (sSeq (sIf (eBin oLt (eVar 1) (eVal (.int 0)))
 (sAsg 2 (eUn oNeg (eVar 2)))
 sPass)
 (sRet (eTup [(eBin oDiv (eVar 0) (eVar 2)), (eBin oDiv (eVar 1) (eVar 2))]))))
def m__law_frac : Fn := fnOf 2 3 b__law_frac
theorem g__law_frac {P : Program} {w : World} {K : PySem.W.Frag} {mg : Str → Option Value} {base : Heap} {C : Cs} (T : Facts P w K mg base) (hC : OkC T C) : FnG P w K mg base 2 T.a__law_frac T.fd__law_frac ["_law_above", "_law_below"] (spF C m__law_frac) := by
  refine fn_body (k := 1) hC.ent T.F__law_frac sc__law_frac fun A outer s H E hr hgd => ?_
  have hN := (sc__law_frac).nd
  have tk : Takes (cxOf (L2.CX P w) P w K mg base N__law_frac "_law_frac" (defScope st__law_frac) T.a__law_frac (.ref (codeAt K T.a__law_frac)) A outer s H E) (fun cls d _ H => E cls d H) := takes_of rfl rfl rfl rfl
  have hp := passes_of (X := (cxOf (L2.CX P w) P w K mg base N__law_frac "_law_frac" (defScope st__law_frac) T.a__law_frac (.ref (codeAt K T.a__law_frac)) A outer s H E)) rfl
  have hu := room_u hr
  have hu64 := room_v hr
  exact (ss_cons (ss_set (i := 2) hN (se_call ((g__law_divisor T hC).mono (by decide)) hr hgd rfl T.g__law_divisor T.k__law_divisor (bd__law_divisor T) tk (sa_cons (se_var 0) (sa_cons (se_var 1) sa_nil))))
 (ss_cons (ss_if (sb_cmp ok_lt (se_var 1) se_int) (ss_one (ss_set (i := 2) hN (se_neg (se_var 2)))) ss_nil)
 (ss_one (ss_ret (se_tup (sa_cons (se_op ok_div (se_var 0) (se_var 2)) (sa_cons (se_op ok_div (se_var 1) (se_var 2)) sa_nil)))))))

abbrev st__law_number : Stmt := top 52
def N__law_number : List Str := ["_law_state", "_law_most", "_law_below"]
theorem sc__law_number : FnScope N__law_number ["_law_state", "_law_most", "_law_below"] (defScope st__law_number) := ⟨rfl, rfl, rfl, by decide +kernel, rfl, by decide +kernel, by decide +kernel⟩
theorem bd__law_number {P : Program} {w : World} {K : PySem.W.Frag} {mg : Str → Option Value} {base : Heap} (T : Facts P w K mg base) : Binds K T.fd__law_number ["_law_state", "_law_most", "_law_below"] [] :=
  T.F__law_number.bindsN fun _ _ _ _ _ _ us hl => match us, hl with | [_, _, _], _ => rfl
def b__law_number : S :=
 (sRet (eCall m__law_frac [(eBin oSub (eCall m__law_draw [(eVar 0), (eBin oAdd (eBin oMul (eVal (.int 2)) (eVar 1)) (eVal (.int 1)))]) (eVar 1)), (eBin oAdd (eVal (.int 1)) (eCall m__law_draw [(eVar 0), (eVar 2)]))]))
def m__law_number : Fn := fnOf 3 3 b__law_number
theorem g__law_number {P : Program} {w : World} {K : PySem.W.Frag} {mg : Str → Option Value} {base : Heap} {C : Cs} (T : Facts P w K mg base) (hC : OkC T C) : FnG P w K mg base 3 T.a__law_number T.fd__law_number ["_law_state", "_law_most", "_law_below"] (spF C m__law_number) := by
  refine fn_body (k := 2) hC.ent T.F__law_number sc__law_number fun A outer s H E hr hgd => ?_
  have hN := (sc__law_number).nd
  have tk : Takes (cxOf (L2.CX P w) P w K mg base N__law_number "_law_number" (defScope st__law_number) T.a__law_number (.ref (codeAt K T.a__law_number)) A outer s H E) (fun cls d _ H => E cls d H) := takes_of rfl rfl rfl rfl
  have hp := passes_of (X := (cxOf (L2.CX P w) P w K mg base N__law_number "_law_number" (defScope st__law_number) T.a__law_number (.ref (codeAt K T.a__law_number)) A outer s H E)) rfl
  have hu := room_u hr
  have hu64 := room_v hr
  exact (ss_one (ss_ret (se_call ((g__law_frac T hC).mono (by decide)) hr hgd rfl T.g__law_frac T.k__law_frac (bd__law_frac T) tk (sa_cons (se_op ok_sub (se_call ((g__law_draw T hC).mono (by decide)) hr hgd rfl T.g__law_draw T.k__law_draw (bd__law_draw T) tk (sa_cons (se_var 0) (sa_cons (se_op ok_add (se_op ok_mul se_int (se_var 1)) se_int) sa_nil))) (se_var 1)) (sa_cons (se_op ok_add se_int (se_call ((g__law_draw T hC).mono (by decide)) hr hgd rfl T.g__law_draw T.k__law_draw (bd__law_draw T) tk (sa_cons (se_var 0) (sa_cons (se_var 2) sa_nil)))) sa_nil)))))

abbrev st__law_step : Stmt := top 53
def N__law_step : List Str := ["_law_state", "_law_size", "_law_most", "_law_below", "_law_found", "_law_head", "_law_power_here"]
theorem sc__law_step : FnScope N__law_step ["_law_state", "_law_size", "_law_most", "_law_below"] (defScope st__law_step) := ⟨rfl, rfl, rfl, by decide +kernel, rfl, by decide +kernel, by decide +kernel⟩
theorem bd__law_step {P : Program} {w : World} {K : PySem.W.Frag} {mg : Str → Option Value} {base : Heap} (T : Facts P w K mg base) : Binds K T.fd__law_step ["_law_state", "_law_size", "_law_most", "_law_below"] [] :=
  T.F__law_step.bindsN fun _ _ _ _ _ _ us hl => match us, hl with | [_, _, _, _], _ => rfl
def b__law_step : S :=
 (sSeq (sAsg 4 (eComp [6] (iRange1 (eVar 1)) (.v 6) none (eCall m__law_number [(eVar 0), (eVar 2), (eVar 3)])))
 (sSeq (sAsg 5 (eCall m__law_frac [(eBin oMul (eBin oAdd (eVal (.int 1)) (eCall m__law_draw [(eVar 0), (eVar 2)])) (eBin oSub (eVal (.int 1)) (eBin oMul (eVal (.int 2)) (eCall m__law_draw [(eVar 0), (eVal (.int 2))])))), (eBin oAdd (eVal (.int 1)) (eCall m__law_draw [(eVar 0), (eVar 3)]))]))
 (sSeq (sFreeze 5) (sRet (eUn oTuple (eBin oAdd (eVar 4) (eLst [(eVar 5)])))))))
def m__law_step : Fn := fnOf 4 7 b__law_step
theorem g__law_step {P : Program} {w : World} {K : PySem.W.Frag} {mg : Str → Option Value} {base : Heap} {C : Cs} (T : Facts P w K mg base) (hC : OkC T C) : FnG P w K mg base 4 T.a__law_step T.fd__law_step ["_law_state", "_law_size", "_law_most", "_law_below"] (spF C m__law_step) := by
  refine fn_body (k := 3) hC.ent T.F__law_step sc__law_step fun A outer s H E hr hgd => ?_
  have hN := (sc__law_step).nd
  have tk : Takes (cxOf (L2.CX P w) P w K mg base N__law_step "_law_step" (defScope st__law_step) T.a__law_step (.ref (codeAt K T.a__law_step)) A outer s H E) (fun cls d _ H => E cls d H) := takes_of rfl rfl rfl rfl
  have hp := passes_of (X := (cxOf (L2.CX P w) P w K mg base N__law_step "_law_step" (defScope st__law_step) T.a__law_step (.ref (codeAt K T.a__law_step)) A outer s H E)) rfl
  have hu := room_u hr
  have hu64 := room_v hr
  exact (ss_cons (ss_setComp (i := 4) (own := [("_law_power_here", 6)]) rfl hN (sic_of (si_range1 rfl T.range (se_var 1))) (blkOk_by (by first | rfl | kernel_rfl)) (fun _ _ _ _ _ => (st_v 6 hN)) (fun _ _ _ _ _ => (se_call ((g__law_number T hC).mono (by decide)) hr hgd rfl T.g__law_number T.k__law_number (bd__law_number T) LamX.takes0 (sa_cons (se_var 0) (sa_cons (se_var 2) (sa_cons (se_var 3) sa_nil))))) (by first | rfl | kernel_rfl))
 (ss_cons (ss_set (i := 5) hN (se_call ((g__law_frac T hC).mono (by decide)) hr hgd rfl T.g__law_frac T.k__law_frac (bd__law_frac T) tk (sa_cons (se_op ok_mul (se_op ok_add se_int (se_call ((g__law_draw T hC).mono (by decide)) hr hgd rfl T.g__law_draw T.k__law_draw (bd__law_draw T) tk (sa_cons (se_var 0) (sa_cons (se_var 2) sa_nil)))) (se_op ok_sub se_int (se_op ok_mul se_int (se_call ((g__law_draw T hC).mono (by decide)) hr hgd rfl T.g__law_draw T.k__law_draw (bd__law_draw T) tk (sa_cons (se_var 0) (sa_cons se_int sa_nil)))))) (sa_cons (se_op ok_add se_int (se_call ((g__law_draw T hC).mono (by decide)) hr hgd rfl T.g__law_draw T.k__law_draw (bd__law_draw T) tk (sa_cons (se_var 0) (sa_cons (se_var 3) sa_nil)))) sa_nil))))
 (ss_freeze (i := 5) (ss_one (ss_ret (se_t1 (c_tuple) rfl T.tuple (by decide +kernel) (se_op ok_add (se_var 4) (se_lst (sa_cons (se_var 5) sa_nil)))))))))

abbrev st__law_refused : Stmt := top 62
def N__law_refused : List Str := ["_law_state", "_law_odd", "_law_good", "_law_near", "_law_far", "_law_due", "_law_tell"]
theorem sc__law_refused : FnScope N__law_refused ["_law_state"] (defScope st__law_refused) := ⟨rfl, rfl, rfl, by decide +kernel, rfl, by decide +kernel, by decide +kernel⟩
theorem bd__law_refused {P : Program} {w : World} {K : PySem.W.Frag} {mg : Str → Option Value} {base : Heap} (T : Facts P w K mg base) : Binds K T.fd__law_refused ["_law_state"] [] :=
  T.F__law_refused.bindsN fun _ _ _ _ _ _ us hl => match us, hl with | [_], _ => rfl
def b__law_refused : S :=
 (sSeq (sAsg 1 (eCall m__law_of [(eVar 0), (eLst [(eVal .non), (eTup []), (eTup [(eTup [(eVal (.int 1)), (eVal (.int 1))])]), (eTup [(eTup [(eVal (.int 1)), (eVal (.int 1))]), (eTup [(eVal (.int 0)), (eVal (.int 1))])]), (eLst [(eTup [(eVal (.int 0)), (eVal (.int 1))]), (eTup [(eVal (.int 1)), (eVal (.int 1))])])])]))
 (sSeq (sAsg 2 (eCall m__law_step [(eVar 0), (eVal (.int 2)), (eVal (.int 3)), (eVal (.int 2))]))
 (sSeq (sFreeze 2) (sSeq (sFreeze 1) (sSeq (sFor (iSeq (eTup [(eTup [(eVar 1), (eVal .non), (eVar 1)]), (eTup [(eVar 2), (eVar 1), (eVar 1)]), (eTup [(eVal .non), (eVar 1), (eVal .non)])])) (.three (.v 3) (.v 4) (.v 5))
 (sSeq (sFor (iSeq (eTup [(eVal (.fn 1)), (eVal (.fn 2)), (eVal (.fn 3))])) (.v 6)
 (sIf (eNot (eCall m__law_like [(eLam (fnTh 4 b__law_refusal) (eCallV tabV 6 [(eVar 3), (eVar 4)])), (eTup [(eVal (.str "step")), (eVar 5)])]))
 (sRet (eVal (.bl false)))
 sPass))
 (sIf (eNot (eCall m__law_like [(eLam (fnTh 4 b__law_refusal) (eCall m_is_bar [(eVar 3), (eVar 4), (eVal .non)])), (eTup [(eVal (.str "step")), (eVar 5)])]))
 (sRet (eVal (.bl false)))
 sPass)))
 (sRet (eVal (.bl true))))))))
def m__law_refused : Fn := fnOf 1 7 b__law_refused
theorem mem__law_refused {P : Program} {w : World} {K : PySem.W.Frag} {mg : Str → Option Value} {base : Heap} {C : Cs} (T : Facts P w K mg base) (hC : OkC T C) : (T.l__law_refused, ((("_law_refused" : Str) ++ ".<locals>.") ++ "<lambda>" : Str)) ∈ C.T := by
  rw [hC.tab]
  exact (List.Mem.tail _ (List.Mem.tail _ (List.Mem.head _)))
theorem g__law_refused {P : Program} {w : World} {K : PySem.W.Frag} {mg : Str → Option Value} {base : Heap} {C : Cs} (T : Facts P w K mg base) (hC : OkC T C) : FnG P w K mg base 9 T.a__law_refused T.fd__law_refused ["_law_state"] (spF C m__law_refused) := by
  refine fn_body (k := 8) hC.ent T.F__law_refused sc__law_refused fun A outer s H E hr hgd => ?_
  have hN := (sc__law_refused).nd
  have tk : Takes (cxOf (L2.CX P w) P w K mg base N__law_refused "_law_refused" (defScope st__law_refused) T.a__law_refused (.ref (codeAt K T.a__law_refused)) A outer s H E) (fun cls d _ H => E cls d H) := takes_of rfl rfl rfl rfl
  have hp := passes_of (X := (cxOf (L2.CX P w) P w K mg base N__law_refused "_law_refused" (defScope st__law_refused) T.a__law_refused (.ref (codeAt K T.a__law_refused)) A outer s H E)) rfl
  have hu := room_u hr
  have hu64 := room_v hr
  exact (ss_cons (ss_set (i := 1) hN (se_call ((g__law_of T hC).mono (by decide)) hr hgd rfl T.g__law_of T.k__law_of (bd__law_of T) tk (sa_cons (se_var 0) (sa_cons (se_lst (sa_cons se_non (sa_cons (se_tup sa_nil) (sa_cons (se_tup (sa_cons (se_tup (sa_cons se_int (sa_cons se_int sa_nil))) sa_nil)) (sa_cons (se_tup (sa_cons (se_tup (sa_cons se_int (sa_cons se_int sa_nil))) (sa_cons (se_tup (sa_cons se_int (sa_cons se_int sa_nil))) sa_nil))) (sa_cons (se_lst (sa_cons (se_tup (sa_cons se_int (sa_cons se_int sa_nil))) (sa_cons (se_tup (sa_cons se_int (sa_cons se_int sa_nil))) sa_nil))) sa_nil)))))) sa_nil))))
 (ss_cons (ss_set (i := 2) hN (se_call ((g__law_step T hC).mono (by decide)) hr hgd rfl T.g__law_step T.k__law_step (bd__law_step T) tk (sa_cons (se_var 0) (sa_cons se_int (sa_cons se_int (sa_cons se_int sa_nil))))))
 (ss_freeze (i := 2) (ss_freeze (i := 1) (ss_cons (ss_for hp rfl (si_seq (se_tup (sa_cons (se_tup (sa_cons (se_var 1) (sa_cons se_non (sa_cons (se_var 1) sa_nil)))) (sa_cons (se_tup (sa_cons (se_var 2) (sa_cons (se_var 1) (sa_cons (se_var 1) sa_nil)))) (sa_cons (se_tup (sa_cons se_non (sa_cons (se_var 1) (sa_cons se_non sa_nil)))) sa_nil))))) (st_three rfl (st_v 3 hN) (st_v 4 hN) (st_v 5 hN)) (ss_cons (ss_for hp rfl (si_seq (se_tup (sa_cons (se_fnv (by rw [hC.fns]; rfl) rfl T.g_common_whole) (sa_cons (se_fnv (by rw [hC.fns]; rfl) rfl T.g_are_joined) (sa_cons (se_fnv (by rw [hC.fns]; rfl) rfl T.g_bar_places) sa_nil))))) (st_v 6 hN) (ss_one (ss_if (sb_not (sb_val (se_call ((g__law_like T hC).mono (by decide)) hr hgd rfl T.g__law_like T.k__law_like (bd__law_like T) tk (sa_cons (se_lam (N := N__law_refusal) (st := st__law_refusal) (qual := "_law_refusal") (m := b__law_refusal) (k := 6) (by rw [hC.fns]; rfl) T.F__law_refusal sc__law_refusal rfl (Or.inl rfl) rfl T.g__law_refusal T.k__law_refusal (bd__law_refusal T) (fun cdv s F H th fa c' q hr hgd hth => gb__law_refusal T hC hr hgd hth) T.tb__law_refused rfl (mem__law_refused T hC) (hC.uniq (mem__law_refused T hC)) hr hgd (LamX.lamS_by (by first | rfl | kernel_rfl)) rfl (fun _ _ _ _ _ => rfl) (fun A' outer' s' H' E' fa' c'' hr hgd => by
    have hu := room_u hr
    have hu64 := room_v hr
    exact (se_callV (tabG T hC) (hr.mono (by decide)) hgd rfl (by first | exact Or.inl rfl | exact Or.inr (Or.inl rfl) | exact Or.inr (Or.inr rfl)) (takes_of rfl rfl rfl rfl) (sa_cons (se_var 3) (sa_cons (se_var 4) sa_nil))))) (sa_cons (se_tup (sa_cons se_str (sa_cons (se_var 5) sa_nil))) sa_nil))))) (ss_one (ss_ret se_bl)) ss_nil)))
 (ss_one (ss_if (sb_not (sb_val (se_call ((g__law_like T hC).mono (by decide)) hr hgd rfl T.g__law_like T.k__law_like (bd__law_like T) tk (sa_cons (se_lam (N := N__law_refusal) (st := st__law_refusal) (qual := "_law_refusal") (m := b__law_refusal) (k := 6) (by rw [hC.fns]; rfl) T.F__law_refusal sc__law_refusal rfl (Or.inl rfl) rfl T.g__law_refusal T.k__law_refusal (bd__law_refusal T) (fun cdv s F H th fa c' q hr hgd hth => gb__law_refusal T hC hr hgd hth) T.tb__law_refused rfl (mem__law_refused T hC) (hC.uniq (mem__law_refused T hC)) hr hgd (LamX.lamS_by (by first | rfl | kernel_rfl)) rfl (fun _ _ _ _ _ => rfl) (fun A' outer' s' H' E' fa' c'' hr hgd => by
    have hu := room_u hr
    have hu64 := room_v hr
    exact (se_call ((g_is_bar T hC).mono (by decide)) hr hgd rfl T.g_is_bar T.k_is_bar (bd_is_bar T) (takes_of rfl rfl rfl rfl) (sa_cons (se_var 3) (sa_cons (se_var 4) (sa_cons se_non sa_nil)))))) (sa_cons (se_tup (sa_cons se_str (sa_cons (se_var 5) sa_nil))) sa_nil))))) (ss_one (ss_ret se_bl)) ss_nil))))
 (ss_one (ss_ret se_bl)))))))

abbrev st__law_too_great : Stmt := top 61
def N__law_too_great : List Str := ["_law_state", "_law_great", "_law_told", "_law_near", "_law_far"]
theorem sc__law_too_great : FnScope N__law_too_great ["_law_state"] (defScope st__law_too_great) := ⟨rfl, rfl, rfl, by decide +kernel, rfl, by decide +kernel, by decide +kernel⟩
theorem bd__law_too_great {P : Program} {w : World} {K : PySem.W.Frag} {mg : Str → Option Value} {base : Heap} (T : Facts P w K mg base) : Binds K T.fd__law_too_great ["_law_state"] [] :=
  T.F__law_too_great.bindsN fun _ _ _ _ _ _ us hl => match us, hl with | [_], _ => rfl
def b__law_too_great : S :=
 (sSeq (sAsg 1 (eBin oAdd (eBin oAdd (eTup [(eTup [(eBin oPow (eVal (.int 10)) (eVal (.int 60))), (eVal (.int 1))])]) (eBin oMulZ (eTup [(eTup [(eVal (.int 1)), (eBin oPow (eVal (.int 10)) (eVal (.int 60)))])]) (eVal (.int 62)))) (eTup [(eTup [(eVal (.int 7)), (eVal (.int 1))])])))
 (sSeq (sFreeze 1) (sSeq (sUnp (.two (.v 3) (.v 4)) (eCall m__law_of [(eVar 0), (eLst [(eTup [(eVar 1), (eCall m__law_power [(eVal (.int 64))])]), (eTup [(eCall m__law_power [(eVal (.int 64))]), (eVar 1)]), (eTup [(eCall m__law_power [(eVal (.int 52))]), (eCall m__law_power [(eVal (.int 5))])])])]))
 (sSeq (sAsg 2 (eLst [(eLam (fnTh 4 b__law_refusal) (eCall m_common_whole [(eVar 3), (eVar 4)]))]))
 (sSeq (sMutL 2 mAppend (eLam (fnTh 4 b__law_refusal) (eCall m_are_joined [(eVar 3), (eVar 4)])))
 (sSeq (sMutL 2 mAppend (eLam (fnTh 4 b__law_refusal) (eCall m_bar_places [(eVar 3), (eVar 4)])))
 (sSeq (sMutL 2 mAppend (eLam (fnTh 4 b__law_refusal) (eCall m_is_bar [(eVar 3), (eVar 4), (eVal .non)])))
 (sSeq (sFreeze 2) (sRet (eCall m__law_like [(eVar 2), (eBin oMul (eLst [(eTup [(eVal (.str "too great")), (eVal (.int 256))])]) (eVal (.int 4)))]))))))))))
def m__law_too_great : Fn := fnOf 1 5 b__law_too_great
theorem mem__law_too_great {P : Program} {w : World} {K : PySem.W.Frag} {mg : Str → Option Value} {base : Heap} {C : Cs} (T : Facts P w K mg base) (hC : OkC T C) : (T.l__law_too_great, ((("_law_too_great" : Str) ++ ".<locals>.") ++ "<lambda>" : Str)) ∈ C.T := by
  rw [hC.tab]
  exact (List.Mem.tail _ (List.Mem.tail _ (List.Mem.tail _ (List.Mem.head _))))
theorem g__law_too_great {P : Program} {w : World} {K : PySem.W.Frag} {mg : Str → Option Value} {base : Heap} {C : Cs} (T : Facts P w K mg base) (hC : OkC T C) : FnG P w K mg base 9 T.a__law_too_great T.fd__law_too_great ["_law_state"] (spF C m__law_too_great) := by
  refine fn_body (k := 8) hC.ent T.F__law_too_great sc__law_too_great fun A outer s H E hr hgd => ?_
  have hN := (sc__law_too_great).nd
  have tk : Takes (cxOf (L2.CX P w) P w K mg base N__law_too_great "_law_too_great" (defScope st__law_too_great) T.a__law_too_great (.ref (codeAt K T.a__law_too_great)) A outer s H E) (fun cls d _ H => E cls d H) := takes_of rfl rfl rfl rfl
  have hp := passes_of (X := (cxOf (L2.CX P w) P w K mg base N__law_too_great "_law_too_great" (defScope st__law_too_great) T.a__law_too_great (.ref (codeAt K T.a__law_too_great)) A outer s H E)) rfl
  have hu := room_u hr
  have hu64 := room_v hr
  exact (ss_cons (ss_set (i := 1) hN (se_op ok_add (se_op ok_add (se_tup (sa_cons (se_tup (sa_cons (se_op ok_pow se_int se_int) (sa_cons se_int sa_nil))) sa_nil)) (se_op ok_mulZ (se_tup (sa_cons (se_tup (sa_cons se_int (sa_cons (se_op ok_pow se_int se_int) sa_nil))) sa_nil)) se_int)) (se_tup (sa_cons (se_tup (sa_cons se_int (sa_cons se_int sa_nil))) sa_nil))))
 (ss_freeze (i := 1) (ss_cons (ss_unp (se_call ((g__law_of T hC).mono (by decide)) hr hgd rfl T.g__law_of T.k__law_of (bd__law_of T) tk (sa_cons (se_var 0) (sa_cons (se_lst (sa_cons (se_tup (sa_cons (se_var 1) (sa_cons (se_call ((g__law_power T hC).mono (by decide)) hr hgd rfl T.g__law_power T.k__law_power (bd__law_power T) tk (sa_cons se_int sa_nil)) sa_nil))) (sa_cons (se_tup (sa_cons (se_call ((g__law_power T hC).mono (by decide)) hr hgd rfl T.g__law_power T.k__law_power (bd__law_power T) tk (sa_cons se_int sa_nil)) (sa_cons (se_var 1) sa_nil))) (sa_cons (se_tup (sa_cons (se_call ((g__law_power T hC).mono (by decide)) hr hgd rfl T.g__law_power T.k__law_power (bd__law_power T) tk (sa_cons se_int sa_nil)) (sa_cons (se_call ((g__law_power T hC).mono (by decide)) hr hgd rfl T.g__law_power T.k__law_power (bd__law_power T) tk (sa_cons se_int sa_nil)) sa_nil))) sa_nil)))) sa_nil))) (st_two rfl (st_v 3 hN) (st_v 4 hN)))
 (ss_cons (ss_set (i := 2) hN (se_lst (sa_cons (se_lam (N := N__law_refusal) (st := st__law_refusal) (qual := "_law_refusal") (m := b__law_refusal) (k := 6) (by rw [hC.fns]; rfl) T.F__law_refusal sc__law_refusal rfl (Or.inl rfl) rfl T.g__law_refusal T.k__law_refusal (bd__law_refusal T) (fun cdv s F H th fa c' q hr hgd hth => gb__law_refusal T hC hr hgd hth) T.tb__law_too_great rfl (mem__law_too_great T hC) (hC.uniq (mem__law_too_great T hC)) hr hgd (LamX.lamS_by (by first | rfl | kernel_rfl)) rfl (fun _ _ _ _ _ => rfl) (fun A' outer' s' H' E' fa' c'' hr hgd => by
    have hu := room_u hr
    have hu64 := room_v hr
    exact (se_call ((g_common_whole T hC).mono (by decide)) hr hgd rfl T.g_common_whole T.k_common_whole (bd_common_whole T) (takes_of rfl rfl rfl rfl) (sa_cons (se_var 3) (sa_cons (se_var 4) sa_nil))))) sa_nil)))
 (ss_cons (ss_append (i := 2) (se_lam (N := N__law_refusal) (st := st__law_refusal) (qual := "_law_refusal") (m := b__law_refusal) (k := 6) (by rw [hC.fns]; rfl) T.F__law_refusal sc__law_refusal rfl (Or.inl rfl) rfl T.g__law_refusal T.k__law_refusal (bd__law_refusal T) (fun cdv s F H th fa c' q hr hgd hth => gb__law_refusal T hC hr hgd hth) T.tb__law_too_great rfl (mem__law_too_great T hC) (hC.uniq (mem__law_too_great T hC)) hr hgd (LamX.lamS_by (by first | rfl | kernel_rfl)) rfl (fun _ _ _ _ _ => rfl) (fun A' outer' s' H' E' fa' c'' hr hgd => by
    have hu := room_u hr
    have hu64 := room_v hr
    exact (se_call ((g_are_joined T hC).mono (by decide)) hr hgd rfl T.g_are_joined T.k_are_joined (bd_are_joined T) (takes_of rfl rfl rfl rfl) (sa_cons (se_var 3) (sa_cons (se_var 4) sa_nil))))))
 (ss_cons (ss_append (i := 2) (se_lam (N := N__law_refusal) (st := st__law_refusal) (qual := "_law_refusal") (m := b__law_refusal) (k := 6) (by rw [hC.fns]; rfl) T.F__law_refusal sc__law_refusal rfl (Or.inl rfl) rfl T.g__law_refusal T.k__law_refusal (bd__law_refusal T) (fun cdv s F H th fa c' q hr hgd hth => gb__law_refusal T hC hr hgd hth) T.tb__law_too_great rfl (mem__law_too_great T hC) (hC.uniq (mem__law_too_great T hC)) hr hgd (LamX.lamS_by (by first | rfl | kernel_rfl)) rfl (fun _ _ _ _ _ => rfl) (fun A' outer' s' H' E' fa' c'' hr hgd => by
    have hu := room_u hr
    have hu64 := room_v hr
    exact (se_call ((g_bar_places T hC).mono (by decide)) hr hgd rfl T.g_bar_places T.k_bar_places (bd_bar_places T) (takes_of rfl rfl rfl rfl) (sa_cons (se_var 3) (sa_cons (se_var 4) sa_nil))))))
 (ss_cons (ss_append (i := 2) (se_lam (N := N__law_refusal) (st := st__law_refusal) (qual := "_law_refusal") (m := b__law_refusal) (k := 6) (by rw [hC.fns]; rfl) T.F__law_refusal sc__law_refusal rfl (Or.inl rfl) rfl T.g__law_refusal T.k__law_refusal (bd__law_refusal T) (fun cdv s F H th fa c' q hr hgd hth => gb__law_refusal T hC hr hgd hth) T.tb__law_too_great rfl (mem__law_too_great T hC) (hC.uniq (mem__law_too_great T hC)) hr hgd (LamX.lamS_by (by first | rfl | kernel_rfl)) rfl (fun _ _ _ _ _ => rfl) (fun A' outer' s' H' E' fa' c'' hr hgd => by
    have hu := room_u hr
    have hu64 := room_v hr
    exact (se_call ((g_is_bar T hC).mono (by decide)) hr hgd rfl T.g_is_bar T.k_is_bar (bd_is_bar T) (takes_of rfl rfl rfl rfl) (sa_cons (se_var 3) (sa_cons (se_var 4) (sa_cons se_non sa_nil)))))))
 (ss_freeze (i := 2) (ss_one (ss_ret (se_call ((g__law_like T hC).mono (by decide)) hr hgd rfl T.g__law_like T.k__law_like (bd__law_like T) tk (sa_cons (se_var 2) (sa_cons (se_op ok_mul (se_lst (sa_cons (se_tup (sa_cons se_str (sa_cons se_int sa_nil))) sa_nil)) se_int) sa_nil)))))))))))))

abbrev st_law : Stmt := top 63
def N_law : List Str := ["_law_script", "_law_state", "_law_turn", "_law_both"]
theorem sc_law : FnScope N_law ["_law_script"] (defScope st_law) := ⟨rfl, rfl, rfl, by decide +kernel, rfl, by decide +kernel, by decide +kernel⟩
theorem bd_law {P : Program} {w : World} {K : PySem.W.Frag} {mg : Str → Option Value} {base : Heap} (T : Facts P w K mg base) : Binds K T.fd_law ["_law_script"] [] :=
  T.F_law.bindsN fun _ _ _ _ _ _ us hl => match us, hl with | [_], _ => rfl
def b_law : S :=
 (sSeq (sFor (iRange1 (eVal (.int 2))) (.v 2)
 (sSeq (sFreeze 1) (sIf (eOr (eNot (eCall m__law_powers [(eVar 1)])) (eOr (eNot (eCall m__law_too_great [(eVar 1)])) (eNot (eCall m__law_refused [(eVar 1)]))))
 (sRet (eVal (.bl false)))
 sPass)))
 (sSeq (sAsg 3 (eCall m_common_whole [(eCall m__law_power [(eVal (.int 64))]), (eCall m__law_power [(eVal (.int 4))])]))
 (sSeq (sFreeze 3) (sRet (eAnd (eCall m__law_named []) (eCall m__law_like [(eVar 3), (eTup [(eCall m__law_power [(eVal (.int 1))]), (eCall m__law_power [(eVal (.int 16))]), (eCall m__law_power [(eVal (.int 64))])])]))))))
def m_law (ns : List Int) : R B := mLaw 4 b_law ns
theorem g_law {P : Program} {w : World} {K : PySem.W.Frag} {mg : Str → Option Value} {base : Heap} {C : Cs} (T : Facts P w K mg base) (hC : OkC T C) (hst : C.st = none) (hcod : C.codes = []) : FnG P w K mg base 10 T.a_law T.fd_law ["_law_script"] (spLaw C K m_law) := by
  refine law_fn (k := 9) hst hC.ent hcod T.F_law sc_law rfl rfl (by decide) rfl (Or.inl rfl) rfl rfl rfl rfl (fun _ => rfl) (g__law_begin T hst hC.ent) rfl T.g__law_begin T.k__law_begin (bd__law_begin T) fun A outer s H E x y z hr hgd => ?_
  have hC : OkC T (CsS C x y z) := ⟨hC.ent, hC.fns, hC.exa, hC.cls, hC.tab⟩
  have hN := (sc_law).nd
  have tk : Takes (cxOf (L2.CX P w) P w K mg base N_law "law" (defScope st_law) T.a_law (.ref (codeAt K T.a_law)) A outer s H E) (fun cls d _ H => E cls d H) := takes_of rfl rfl rfl rfl
  have hp := passes_of (X := (cxOf (L2.CX P w) P w K mg base N_law "law" (defScope st_law) T.a_law (.ref (codeAt K T.a_law)) A outer s H E)) rfl
  have hu := room_u hr
  have hu64 := room_v hr
  exact (ss_cons (ss_for hp rfl (si_range1 rfl T.range se_int) (st_v 2 hN) (ss_freeze (i := 1) (ss_one (ss_if (sb_w (sbw_or (sb_not (sb_val (se_call ((g__law_powers T hC).mono (by decide)) hr hgd rfl T.g__law_powers T.k__law_powers (bd__law_powers T) tk (sa_cons (se_var 1) sa_nil)))) (sbw_or (sb_not (sb_val (se_call ((g__law_too_great T hC).mono (by decide)) hr hgd rfl T.g__law_too_great T.k__law_too_great (bd__law_too_great T) tk (sa_cons (se_var 1) sa_nil)))) (sbw_one_or (sb_not (sb_val (se_call ((g__law_refused T hC).mono (by decide)) hr hgd rfl T.g__law_refused T.k__law_refused (bd__law_refused T) tk (sa_cons (se_var 1) sa_nil)))))))) (ss_one (ss_ret se_bl)) ss_nil))))
 (ss_cons (ss_set (i := 3) hN (se_call ((g_common_whole T hC).mono (by decide)) hr hgd rfl T.g_common_whole T.k_common_whole (bd_common_whole T) tk (sa_cons (se_call ((g__law_power T hC).mono (by decide)) hr hgd rfl T.g__law_power T.k__law_power (bd__law_power T) tk (sa_cons se_int sa_nil)) (sa_cons (se_call ((g__law_power T hC).mono (by decide)) hr hgd rfl T.g__law_power T.k__law_power (bd__law_power T) tk (sa_cons se_int sa_nil)) sa_nil))))
 (ss_freeze (i := 3) (ss_one (ss_ret (se_and (se_call0 ((g__law_named T hC).mono (by decide)) hr hgd rfl T.g__law_named T.k__law_named (bd__law_named T) tk) (se_one (se_call ((g__law_like T hC).mono (by decide)) hr hgd rfl T.g__law_like T.k__law_like (bd__law_like T) tk (sa_cons (se_var 3) (sa_cons (se_tup (sa_cons (se_call ((g__law_power T hC).mono (by decide)) hr hgd rfl T.g__law_power T.k__law_power (bd__law_power T) tk (sa_cons se_int sa_nil)) (sa_cons (se_call ((g__law_power T hC).mono (by decide)) hr hgd rfl T.g__law_power T.k__law_power (bd__law_power T) tk (sa_cons se_int sa_nil)) (sa_cons (se_call ((g__law_power T hC).mono (by decide)) hr hgd rfl T.g__law_power T.k__law_power (bd__law_power T) tk (sa_cons se_int sa_nil)) sa_nil)))) sa_nil))))))))))

end K51

set_option Elab.async false
set_option linter.all false
set_option maxRecDepth 100000
set_option maxHeartbeats 1000000
namespace K51
open PySem Sx
/-- what stands behind the two draws -/
def pwRest : S :=
 (sSeq (sFreeze 7) (sSeq (sFreeze 6) (sSeq (sAsg 1 (eCall m__law_divisor [(eVar 6), (eVar 7)]))
 (sSeq (sAsg 2 (eTup [(eCall m__law_power [(eBin oDiv (eVar 7) (eVar 1))]), (eCall m__law_power [(eBin oDiv (eVar 6) (eVar 1))]), (eCall m__law_power [(eBin oDiv (eBin oMul (eVar 6) (eVar 7)) (eVar 1))])]))
 (sSeq (sIf (eBin oGt (eBin oDiv (eBin oMul (eVar 6) (eVar 7)) (eVar 1)) (eVal (.int 30)))
 (sRet (eVal (.bl true)))
 sPass)
 (sSeq (sFreeze 7) (sSeq (sFreeze 6) (sSeq (sAsg 3 (eLst [(eCall m_common_whole [(eCall m__law_power [(eVar 6)]), (eCall m__law_power [(eVar 7)])]), (eCall m_are_joined [(eCall m__law_power [(eVar 6)]), (eCall m__law_power [(eVar 7)])])]))
 (sSeq (sFreeze 3) (sSeq (sIf (eNot (eCall m__law_like [(eVar 3), (eLst [(eVar 2), (eVal (.bl true))])]))
 (sRet (eVal (.bl false)))
 sPass)
 (sSeq (sFreeze 7) (sSeq (sFreeze 6) (sSeq (sAsg 4 (eLam (fnTh 4 b__law_refusal) (eCall m_bar_places [(eCall m__law_power [(eVar 6)]), (eCall m__law_power [(eVar 7)])])))
 (sSeq (sAsg 5 (eBin oAdd (eBin oAdd (eBin oDiv (eVar 6) (eVar 1)) (eBin oDiv (eVar 7) (eVar 1))) (eVal (.int 1))))
 (sSeq (sFreeze 7) (sSeq (sFreeze 6) (sRet (eAnd (eBin oEq (eVar 4) (eTup [(eVal (.str "no row"))])) (eBin oIsBl (eCall m_is_bar [(eCall m__law_power [(eVar 6)]), (eCall m__law_power [(eVar 7)]), (eTupRg (eVar 5))]) (eVal (.bl false)))))))))))))))))))))
theorem pw_eq : b__law_powers = sSeq (sPar 6 7 (eBin oAdd (eVal (.int 1)) (eCall m__law_draw [(eVar 0), (eVal (.int 16))])) (eBin oAdd (eVal (.int 1)) (eCall m__law_draw [(eVar 0), (eVal (.int 16))]))) pwRest := rfl
def pwGo (a b : Int) (g : G) : R B := ends (pwRest [some (sh .st), none, none, none, none, none, some (sh (.int a)), some (sh (.int b))] g)
theorem t2 (g : G) : pwGo 16 15 g = .ok (sh (.bl true)) g := by kernel_rfl
theorem t3 (g : G) : pwGo 6 4 g = .ok (sh (.bl true)) g := by kernel_rfl
theorem t4 (g : G) : pwGo 15 10 g = .ok (sh (.bl true)) g := by kernel_rfl
end K51

set_option Elab.async false
set_option linter.all false
set_option maxRecDepth 100000
set_option maxHeartbeats 1000000
namespace K51
open PySem Sx
theorem nm (g : G) : m__law_named [] g = .ok (sh (.bl true)) g := by kernel_rfl
end K51

set_option Elab.async false
set_option linter.all false
set_option maxRecDepth 100000
set_option maxHeartbeats 1000000
namespace K51
open PySem Sx
def pwD (n : Nat) : D := .tup (List.replicate n (.tup [.int 0, .int 1]) ++ [.tup [.int 1, .int 1]])
def bigD : D := .tup ([.tup [.int (10 ^ 60), .int 1]] ++ List.replicate 62 (.tup [.int 1, .int (10 ^ 60)]) ++ [.tup [.int 7, .int 1]])
def tgRest : S :=
 (sSeq (sAsg 2 (eLst [(eLam (fnTh 4 b__law_refusal) (eCall m_common_whole [(eVar 3), (eVar 4)]))]))
 (sSeq (sMutL 2 mAppend (eLam (fnTh 4 b__law_refusal) (eCall m_are_joined [(eVar 3), (eVar 4)])))
 (sSeq (sMutL 2 mAppend (eLam (fnTh 4 b__law_refusal) (eCall m_bar_places [(eVar 3), (eVar 4)])))
 (sSeq (sMutL 2 mAppend (eLam (fnTh 4 b__law_refusal) (eCall m_is_bar [(eVar 3), (eVar 4), (eVal .non)])))
 (sSeq (sFreeze 2) (sRet (eCall m__law_like [(eVar 2), (eBin oMul (eLst [(eTup [(eVal (.str "too great")), (eVal (.int 256))])]) (eVal (.int 4)))])))))))
def tgGo (x y : D) (g : G) : R B := ends (tgRest [some (sh .st), some (sh bigD), none, some (sh x), some (sh y)] g)
theorem g1 (g : G) : tgGo (pwD 52) (pwD 5) g = .ok (sh (.bl true)) g := by kernel_rfl
theorem g2 (g : G) : tgGo bigD (pwD 64) g = .ok (sh (.bl true)) g := by kernel_rfl
theorem g3 (g : G) : tgGo (pwD 64) bigD g = .ok (sh (.bl true)) g := by kernel_rfl
end K51

set_option Elab.async false
set_option linter.all false
set_option maxRecDepth 1000000
set_option maxHeartbeats 4000000
namespace K51
open PySem Sx
/-! ### bounds -/
theorem log_le {n a : Nat} (h : n ≤ 2 ^ a) : n.log2 ≤ a := by
  by_cases e : n = 0
  · subst e; simp
  · have : n.log2 < a + 1 := (Nat.log2_lt e).mpr (Nat.lt_of_le_of_lt h (Nat.pow_lt_pow_right (by decide) (Nat.lt_succ_self a)))
    omega
theorem mulOk_b {i j : Int} {a b : Nat} (hi : i.natAbs ≤ 2 ^ a) (hj : j.natAbs ≤ 2 ^ b) (h : a + b < 1000000) : mulOk i j = true := by
  have h1 := log_le hi
  have h2 := log_le hj
  exact decide_eq_true (by omega)
theorem divOk_b {j : Int} {a : Nat} (h0 : j ≠ 0) (hj : j.natAbs ≤ 2 ^ a) (h : a < 9000) : divOk j = true := by
  have h2 := log_le hj
  exact decide_eq_true ⟨h0, by omega⟩
/-! ### loops -/
theorem wS {c : E} {b : S} {ρ ρ1 : Ro} {g : G} {n : Nat} (h : c ρ g = .ok (sh (.bl true)) g) (h2 : b ρ g = .nx ρ1 g) : whileF c b (n + 1) ρ g = whileF c b n ρ1 g := by
  show onR (c ρ g) ρ _ = _
  rw [h]
  show (match b ρ g with | .nx ρ2 g2 => whileF c b n ρ2 g2 | .ct ρ2 g2 => whileF c b n ρ2 g2 | .bk ρ2 g2 => .nx ρ2 g2 | r => r) = _
  rw [h2]
theorem wE {c : E} {b : S} {ρ : Ro} {g : G} {n : Nat} (h : c ρ g = .ok (sh (.bl false)) g) : whileF c b (n + 1) ρ g = .nx ρ g := by
  show onR (c ρ g) ρ _ = _
  rw [h]
  rfl
theorem seq_nx {a b : S} {ρ ρ1 : Ro} {g g1 : G} (h : a ρ g = .nx ρ1 g1) : sSeq a b ρ g = b ρ1 g1 := by
  unfold sSeq
  rw [h]
abbrev nI (n : Nat) : D := .int (n : Int)
abbrev sI (i : Int) : Option B := some (sh (.int i))
/-! ### the greatest common divisor -/
theorem half {a b : Nat} (hb : 0 < b) (hc : 0 < a % b) : 2 * (b % (a % b)) < b := by
  have h1 : a % b < b := Nat.mod_lt _ hb
  generalize a % b = c at *
  have h2 : b % c < c := Nat.mod_lt _ hc
  by_cases h : 2 * c ≤ b
  · omega
  · have : b % c = b - c := by
      rw [Nat.mod_eq_sub_mod (by omega), Nat.mod_eq_of_lt (by omega)]
    omega
def cDiv : E := eBin oGt (eVar 1) (eVal (.int 0))
def bDiv : S := sPar 0 1 (eVar 1) (eBin oMod (eVar 0) (eVar 1))
theorem cDiv_0 (a : Int) (g : G) : cDiv [sI a, sI ((0 : Nat) : Int)] g = .ok (sh (.bl false)) g := rfl
theorem cDiv_1 (a : Int) {b : Nat} (hb : 0 < b) (g : G) : cDiv [sI a, sI (b : Int)] g = .ok (sh (.bl true)) g := by
  show R.ok (sh (.bl (decide ((0 : Int) < b)))) g = _
  rw [decide_eq_true (by omega)]
theorem bDiv_1 (a : Nat) {b : Nat} (hb : 0 < b) (g : G) : bDiv [sI (a : Int), sI (b : Int)] g = .nx [sI (b : Int), sI ((a % b : Nat) : Int)] g := by
  unfold bDiv
  rw [sPar_0]
  have : b ≠ 0 := by omega
  simp [sPar0, onR, eVar, eBin, oMod, R.bind, this, Int.fmod_eq_emod_of_nonneg]
theorem div_loop : ∀ (r n a b : Nat) (g : G), b < 2 ^ r → 2 * r + 1 ≤ n → whileF cDiv bDiv n [sI (a : Int), sI (b : Int)] g = .nx [sI ((Nat.gcd a b : Nat) : Int), sI ((0 : Nat) : Int)] g
  | r, 0, _, _, _, _, h => by omega
  | 0, n + 1, a, b, g, hb, _ => by
    have : b = 0 := by simpa using hb
    subst this
    rw [wE (cDiv_0 _ g), Nat.gcd_zero_right]
  | r + 1, 1, _, _, _, _, h => by omega
  | r + 1, n + 2, a, b, g, hb, hn => by
    by_cases e : b = 0
    · subst e
      rw [wE (cDiv_0 _ g), Nat.gcd_zero_right]
    · have hb0 : 0 < b := by omega
      rw [wS (cDiv_1 _ hb0 g) (bDiv_1 a hb0 g)]
      have e1 : Nat.gcd a b = Nat.gcd b (a % b) := by rw [Nat.gcd_comm a b, Nat.gcd_rec b a, Nat.gcd_comm]
      by_cases e2 : a % b = 0
      · rw [e2, wE (cDiv_0 _ g), e1, e2, Nat.gcd_zero_right]
      · have hc0 : 0 < a % b := by omega
        rw [wS (cDiv_1 _ hc0 g) (bDiv_1 b hc0 g)]
        have h2 := half hb0 hc0
        rw [div_loop r n (a % b) (b % (a % b)) g (by rw [Nat.pow_succ] at hb; omega) (by omega)]
        rw [e1, Nat.gcd_comm b (a % b), Nat.gcd_rec (a % b) b, Nat.gcd_comm]
theorem max_abs (i : Int) : oMax2 (.int i) (.int (-i)) = some (sh (.int (i.natAbs : Int))) := by
  show some (sh (.int (if -i > i then -i else i))) = _
  congr 3
  split <;> omega
theorem divisor_ok (a b : Int) (hb : b.natAbs < 2 ^ 400000) (g : G) : m__law_divisor [.int a, .int b] g = .ok (sh (.int ((Int.gcd a b : Nat) : Int))) g := by
  have h0 : sPar 0 1 (eBin oMax2 (eVar 0) (eUn oNeg (eVar 0))) (eBin oMax2 (eVar 1) (eUn oNeg (eVar 1))) [sI a, sI b] g = .nx [sI (a.natAbs : Int), sI (b.natAbs : Int)] g := by
    rw [sPar_0]
    simp [sPar0, onR, eVar, eBin, eUn, oNeg, R.bind, max_abs]
  have h1 : sWhile cDiv bDiv [sI (a.natAbs : Int), sI (b.natAbs : Int)] g = .nx [sI ((Int.gcd a b : Nat) : Int), sI ((0 : Nat) : Int)] g := div_loop 400000 FUEL a.natAbs b.natAbs g hb (by unfold FUEL; omega)
  show ends (sSeq _ (sSeq (sWhile cDiv bDiv) (sRetV 0)) [sI a, sI b] g) = _
  rw [seq_nx h0, seq_nx h1]
  rfl
/-! ### fractions -/
abbrev fr (a b : Int) : D := .tup [.int a, .int b]
theorem frac_ok {a b : Int} (hb : 0 < b) (h : b.natAbs ≤ 2 ^ 8000) (g : G) : m__law_frac [.int a, .int b] g = .ok (sh (fr (a / (Int.gcd a b : Nat)) (b / (Int.gcd a b : Nat)))) g := by
  have hd := divisor_ok a b (Nat.lt_of_le_of_lt h (Nat.pow_lt_pow_right (by decide) (by decide))) g
  have g0 : 0 < Int.gcd a b := Int.gcd_pos_of_ne_zero_right _ (by omega)
  have gle : Int.gcd a b ≤ b.natAbs := Nat.le_of_dvd (by omega) (Nat.gcd_dvd_right _ _)
  have d1 : divOk ((Int.gcd a b : Nat) : Int) = true := divOk_b (a := 8000) (by omega) (by rw [Int.natAbs_natCast]; omega) (by decide)
  have nb : ¬ b < 0 := by omega
  have e1 : a.fdiv ((Int.gcd a b : Nat) : Int) = a / ((Int.gcd a b : Nat) : Int) := Int.fdiv_eq_ediv_of_nonneg _ (by omega)
  have e2 : b.fdiv ((Int.gcd a b : Nat) : Int) = b / ((Int.gcd a b : Nat) : Int) := Int.fdiv_eq_ediv_of_nonneg _ (by omega)
  have s1 : sAsg 2 (eCall m__law_divisor [(eVar 0), (eVar 1)]) [sI a, sI b, none] g = .nx [sI a, sI b, sI ((Int.gcd a b : Nat) : Int)] g := by
    simp [sAsg_0, sAsg0, onR, eCall_0, eCall0, eArgs, eVar, R.bind, hd]
  have s2 : sIf (eBin oLt (eVar 1) (eVal (.int 0))) (sAsg 2 (eUn oNeg (eVar 2))) sPass [sI a, sI b, sI ((Int.gcd a b : Nat) : Int)] g = .nx [sI a, sI b, sI ((Int.gcd a b : Nat) : Int)] g := by
    simp [sIf, onR, eBin, eVar, eVal, oLt, R.bind, nb, sPass]
  show ends (sSeq _ (sSeq _ _) [sI a, sI b, none] g) = _
  rw [seq_nx s1, seq_nx s2]
  simp [ends, sRet, onR, eTup, eArgs, eBin, eVar, oDiv, R.bind, d1, e1, e2]
theorem frac_cop {a b : Int} (hb : 0 < b) (h : b.natAbs ≤ 2 ^ 8000) (c : Int.gcd a b = 1) (g : G) : m__law_frac [.int a, .int b] g = .ok (sh (fr a b)) g := by
  rw [frac_ok hb h g, c]
  simp
end K51

set_option Elab.async false
set_option linter.all false
set_option maxRecDepth 100000
set_option maxHeartbeats 4000000
namespace K51
open PySem Sx
abbrev O := Option B
abbrev oS (d : D) : O := some (sh d)
abbrev frq (x : Int × Int) : D := fr x.1 x.2
theorem tsh (d : D) : (sh d).t ≠ .bw := fun h => nomatch h
theorem tow (d : D) : (ow d).t ≠ .bw := fun h => nomatch h
theorem if_t {c : E} {a b : S} {ρ : Ro} {g g1 : G} (h : c ρ g = .ok (sh (.bl true)) g1) : sIf c a b ρ g = a ρ g1 := by
  unfold sIf
  rw [h]
  rfl
theorem if_f {c : E} {a b : S} {ρ : Ro} {g g1 : G} (h : c ρ g = .ok (sh (.bl false)) g1) : sIf c a b ρ g = b ρ g1 := by
  unfold sIf
  rw [h]
  rfl
theorem asg_ok {i : Nat} {f : E} {ρ : Ro} {b : B} {g g1 : G} (h : f ρ g = .ok b g1) (hb : b.t ≠ .bw) : sAsg i f ρ g = .nx (ρ.set i (some b)) g1 := by
  rw [sAsg_0]
  unfold sAsg0
  rw [h]
  obtain ⟨t, d⟩ := b
  cases t with
  | bw => exact absurd rfl hb
  | _ => rfl
theorem par_ok {i j : Nat} {f h : E} {ρ : Ro} {x y : D} {g g1 g2 : G} (h1 : f ρ g = .ok (sh x) g1) (h2 : h ρ g1 = .ok (sh y) g2) : sPar i j f h ρ g = .nx ((ρ.set i (oS x)).set j (oS y)) g2 := by
  rw [sPar_0]
  unfold sPar0
  rw [h1]
  show onR (h ρ g1) ρ _ = _
  rw [h2]
  rfl
theorem call_1 {m : Fn} {f : E} {ρ : Ro} {x : B} {b : B} {g g1 g2 : G} (h1 : f ρ g = .ok x g1) (hx : x.t ≠ .bw) (h : m [x.d] g1 = .ok b g2) : eCall m [f] ρ g = .ok b g2 := by
  rw [eCall_0]
  unfold eCall0 eArgs eArgs
  rw [h1]
  obtain ⟨t, d⟩ := x
  cases t with
  | bw => exact absurd rfl hx
  | _ => exact h
/-- arguments -/
inductive Args : List E → Ro → G → List D → G → Prop
  | nil {ρ : Ro} {g : G} : Args [] ρ g [] g
  | cons {f : E} {fs : List E} {ρ : Ro} {g g1 g2 : G} {b : B} {ds : List D} : f ρ g = .ok b g1 → b.t ≠ .bw → Args fs ρ g1 ds g2 → Args (f :: fs) ρ g (b.d :: ds) g2
theorem args_ok {fs : List E} {ρ : Ro} {g g2 : G} {ds : List D} (h : Args fs ρ g ds g2) : eArgs fs ρ g = .ok ds g2 := by
  induction h with
  | nil => rfl
  | @cons f fs ρ g g1 g2 b ds h1 h2 h3 ih =>
    rw [eArgs_cons, h1]
    obtain ⟨t, d⟩ := b
    cases t with
    | bw => exact absurd rfl h2
    | sh =>
      show R.bind (eArgs _ _ _) _ = _
      rw [ih]
      rfl
    | ow =>
      show R.bind (eArgs _ _ _) _ = _
      rw [ih]
      rfl
theorem call_a {m : Fn} {fs : List E} {ρ : Ro} {g g1 : G} {ds : List D} {r : R B} (h : Args fs ρ g ds g1) (h2 : m ds g1 = r) : eCall m fs ρ g = r := by
  rw [eCall_0]
  unfold eCall0
  rw [args_ok h]
  exact h2
theorem tup_a {fs : List E} {ρ : Ro} {g g1 : G} {ds : List D} (h : Args fs ρ g ds g1) : eTup fs ρ g = .ok (sh (.tup ds)) g1 := by
  unfold eTup
  rw [args_ok h]
  rfl
theorem lst_a {fs : List E} {ρ : Ro} {g g1 : G} {ds : List D} (h : Args fs ρ g ds g1) : eLst fs ρ g = .ok (ow (.lst ds)) g1 := by
  unfold eLst
  rw [args_ok h]
  rfl
theorem a1 {f : E} {ρ : Ro} {g g1 : G} {x : D} (h : f ρ g = .ok (sh x) g1) : Args [f] ρ g [x] g1 := .cons (b := sh x) h (tsh _) .nil
theorem a2 {f f2 : E} {ρ : Ro} {g g1 g2 : G} {x y : D} (h : f ρ g = .ok (sh x) g1) (h2 : f2 ρ g1 = .ok (sh y) g2) : Args [f, f2] ρ g [x, y] g2 := .cons (b := sh x) h (tsh _) (a1 h2)
theorem a3 {f f2 f3 : E} {ρ : Ro} {g g1 g2 g3 : G} {x y z : D} (h : f ρ g = .ok (sh x) g1) (h2 : f2 ρ g1 = .ok (sh y) g2) (h3 : f3 ρ g2 = .ok (sh z) g3) : Args [f, f2, f3] ρ g [x, y, z] g3 := .cons (b := sh x) h (tsh _) (a2 h2 h3)
theorem a4 {f f2 f3 f4 : E} {ρ : Ro} {g g1 g2 g3 g4 : G} {x y z u : D} (h : f ρ g = .ok (sh x) g1) (h2 : f2 ρ g1 = .ok (sh y) g2) (h3 : f3 ρ g2 = .ok (sh z) g3) (h4 : f4 ρ g3 = .ok (sh u) g4) : Args [f, f2, f3, f4] ρ g [x, y, z, u] g4 := .cons (b := sh x) h (tsh _) (a3 h2 h3 h4)
theorem ret_ok {f : E} {ρ : Ro} {g g1 : G} {d : D} (h : f ρ g = .ok (sh d) g1) : sRet f ρ g = .rt (sh d) g1 := by
  unfold sRet
  rw [h]
  rfl
theorem exp_ok {f : E} {ρ : Ro} {g g1 : G} {b : B} (h : f ρ g = .ok b g1) : sExpr f ρ g = .nx ρ g1 := by
  unfold sExpr
  rw [h]
  rfl
theorem not_ok {f : E} {ρ : Ro} {b : Bool} {g g1 : G} (h : f ρ g = .ok (sh (.bl b)) g1) : eNot f ρ g = .ok (sh (.bl (!b))) g1 := by
  unfold eNot
  rw [h]
  rfl
theorem bin_ok {o : Op2} {f h : E} {ρ : Ro} {g g1 g2 : G} {x y b : Sx.B} (h1 : f ρ g = .ok x g1) (h2 : h ρ g1 = .ok y g2) (h3 : o x.d y.d = some b) : eBin o f h ρ g = .ok b g2 := by
  unfold eBin
  rw [h1]
  show (h ρ g1).bind _ = _
  rw [h2]
  show (match o x.d y.d with | some b => R.ok b g2 | none => .no) = _
  rw [h3]
theorem un_ok {o : Op1} {f : E} {ρ : Ro} {g g1 : G} {x b : Sx.B} (h1 : f ρ g = .ok x g1) (h3 : o x.d = some b) : eUn o f ρ g = .ok b g1 := by
  unfold eUn
  rw [h1]
  show (match o x.d with | some b => R.ok b g1 | none => .no) = _
  rw [h3]
theorem var_sh {i : Nat} {ρ : Ro} {d : D} (g : G) (h : ρ[i]? = some (some (sh d))) : eVar i ρ g = .ok (sh d) g := by
  unfold eVar
  rw [h]
theorem mul_k {a b : Int} (m : mulOk a b = true) : oMul (.int a) (.int b) = some (sh (.int (a * b))) := by
  show (if mulOk a b then some (sh (.int (a * b))) else none) = _
  rw [if_pos m]
theorem div_k {a b : Int} (m : divOk b = true) (h : 0 ≤ b) : oDiv (.int a) (.int b) = some (sh (.int (a / b))) := by
  show (if divOk b then some (sh (.int (a.fdiv b))) else none) = _
  rw [if_pos m, Int.fdiv_eq_ediv_of_nonneg _ h]
theorem mod_k {a b : Int} (h : 0 < b) : oMod (.int a) (.int b) = some (sh (.int (a % b))) := by
  have hb : b ≠ 0 := by omega
  show (if b ≠ 0 then some (sh (.int (a.fmod b))) else none) = _
  rw [if_pos hb, Int.fmod_eq_emod_of_nonneg _ (by omega)]
theorem ne_k (a b : Int) : oNe (.int a) (.int b) = some (sh (.bl (!(a == b)))) := rfl
theorem eq_k (a b : Int) : oEq (.int a) (.int b) = some (sh (.bl (a == b))) := rfl
theorem ix_1 {i : Nat} {ρ : Ro} {x : Int × Int} (g : G) (h : ρ[i]? = some (some (sh (frq x)))) : eBin oIx (eVar i) (eVal (.int 1)) ρ g = .ok (sh (.int x.2)) g := bin_ok (var_sh g h) rfl rfl
theorem ix_0 {i : Nat} {ρ : Ro} {x : Int × Int} (g : G) (h : ρ[i]? = some (some (sh (frq x)))) : eBin oIx (eVar i) (eVal (.int 0)) ρ g = .ok (sh (.int x.1)) g := bin_ok (var_sh g h) rfl rfl
theorem for_1 {b : S} {i : Nat} {x : D} {xs : List D} {ρ ρ1 : Ro} {g g1 : G} (h : b (ρ.set i (some (sh x))) g = .nx ρ1 g1) : forL (.v i) b (x :: xs) ρ g = forL (.v i) b xs ρ1 g1 := by
  conv => lhs; unfold forL
  rw [put_v]
  dsimp only
  rw [h]
theorem sFor_ok {it : It} {t : Tg} {b : S} {ρ : Ro} {g g1 : G} {ds : List D} (h : it ρ g = .ok ds g1) : sFor it t b ρ g = forL t b ds ρ g1 := by
  unfold sFor
  rw [h]
theorem sFor_0 {it : It} {t : Tg} {b : S} {ρ : Ro} {g g1 : G} {ds : List D} {r : SR} (h : it ρ g = .ok ds g1) (h2 : forL t b ds ρ g1 = r) : sFor it t b ρ g = r := by
  rw [sFor_ok h]
  exact h2
theorem comp_map {α : Type} {i : Nat} {f : E} {F h : α → D} {ρ0 : Ro} {g : G} : ∀ (l : List α) (acc : List D), (∀ x ∈ l, f (ρ0.set i (some (sh (h x)))) g = .ok (sh (F x)) g) → compL (.v i) none f ρ0 (l.map h) acc g = .ok (acc ++ l.map F) g
  | [], acc, _ => by
    show R.ok acc g = R.ok (acc ++ []) g
    rw [List.append_nil]
  | x :: l, acc, hx => by
    rw [List.map_cons]
    unfold compL
    rw [put_v]
    dsimp only
    rw [hx x List.mem_cons_self]
    dsimp only
    rw [comp_map l (acc ++ [F x]) fun y hy => hx y (List.mem_cons_of_mem _ hy), List.append_assoc]
    rfl
theorem seq_rt {a b : S} {ρ : Ro} {g g1 : G} {x : B} (h : a ρ g = .rt x g1) : sSeq a b ρ g = .rt x g1 := by
  unfold sSeq
  rw [h]
theorem seq_er {a b : S} {ρ ρ1 : Ro} {g g1 : G} {x : Ex} (h : a ρ g = .er x ρ1 g1) : sSeq a b ρ g = .er x ρ1 g1 := by
  unfold sSeq
  rw [h]
theorem small_nat {k : Nat} (h : k ≤ 5000) : smallI (k : Int) = true := by
  have e : (2 : Int) ^ 62 = 4611686018427387904 := by decide
  unfold smallI
  rw [e]
  exact decide_eq_true ⟨by omega, by omega⟩
theorem range_s (lo : Int) (n : Nat) : rangeD lo (n + 1) = .int lo :: rangeD (lo + 1) n := rfl
theorem range_k {ρ : Ro} {k : Nat} {g : G} (i : Nat) (h : ρ[i]? = some (sI k)) (hk : k ≤ 5000) : iRange1 (eVar i) ρ g = .ok (rangeD 0 k) g := by
  have e := small_nat hk
  generalize hs : smallI (k : Int) = sm at e
  simp only [iRange1, eVar, h, R.bind, hs, e, if_true, Int.toNat_natCast]
/-- a number of a step, w its size -/
structure Num (w : Nat) (x : Int × Int) : Prop where
  pos : 0 < x.2
  up : x.1.natAbs ≤ 2 ^ w
  lo : x.2.natAbs ≤ 2 ^ w
  cop : Int.gcd x.1 x.2 = 1
theorem num_up {w v : Nat} {x : Int × Int} (h : Num w x) (hw : w ≤ v) : Num v x := ⟨h.pos, Nat.le_trans h.up (Nat.pow_le_pow_right (by decide) hw), Nat.le_trans h.lo (Nat.pow_le_pow_right (by decide) hw), h.cop⟩
end K51

set_option Elab.async false
set_option linter.all false
set_option maxRecDepth 100000
set_option maxHeartbeats 1000000
namespace K51
open PySem Sx
/-! ### fractions as rationals -/
abbrev dq (q : Rat) : D := fr q.num (q.den : Int)
structure Sz (w : Nat) (q : Rat) : Prop where
  up : q.num.natAbs ≤ 2 ^ w
  lo : q.den ≤ 2 ^ w
theorem Sz.mono {w v : Nat} {q : Rat} (h : Sz w q) (hw : w ≤ v) : Sz v q := ⟨Nat.le_trans h.up (Nat.pow_le_pow_right (by decide) hw), Nat.le_trans h.lo (Nat.pow_le_pow_right (by decide) hw)⟩
theorem mk_num {n : Int} {d : Nat} (hd : d ≠ 0) : (mkRat n d).num = n / ((Int.gcd n d : Nat) : Int) := by
  rw [mkRat, dif_neg hd, Rat.num_normalize]
  rfl
theorem mk_den {n : Int} {d : Nat} (hd : d ≠ 0) : (mkRat n d).den = d / Int.gcd n d := by
  rw [mkRat, dif_neg hd, Rat.den_normalize]
  rfl
theorem frac_rat {n : Int} {d : Nat} (hd : d ≠ 0) (h : d ≤ 2 ^ 8000) (g : G) : m__law_frac [.int n, nI d] g = .ok (sh (dq (mkRat n d))) g := by
  have f := frac_ok (a := n) (b := (d : Int)) (by omega) (by rw [Int.natAbs_natCast]; exact h) g
  rw [f]
  show R.ok (sh (fr _ _)) g = R.ok (sh (fr (mkRat n d).num ((mkRat n d).den : Int))) g
  rw [mk_num hd, mk_den hd, Int.natCast_ediv]
theorem sz_mk {n : Int} {d w : Nat} (hd : d ≠ 0) (h1 : n.natAbs ≤ 2 ^ w) (h2 : d ≤ 2 ^ w) : Sz w (mkRat n d) := by
  refine ⟨?_, ?_⟩
  · rw [mk_num hd]
    exact Nat.le_trans (Int.natAbs_ediv_le_natAbs _ _) h1
  · rw [mk_den hd]
    exact Nat.le_trans (Nat.div_le_self _ _) h2
theorem nat_mul {a b : Int} {x y : Nat} (h1 : a.natAbs ≤ 2 ^ x) (h2 : b.natAbs ≤ 2 ^ y) : (a * b).natAbs ≤ 2 ^ (x + y) := by
  rw [Int.natAbs_mul, Nat.pow_add]
  exact Nat.mul_le_mul h1 h2
theorem den_mul {a b : Rat} {x y : Nat} (h1 : a.den ≤ 2 ^ x) (h2 : b.den ≤ 2 ^ y) : a.den * b.den ≤ 2 ^ (x + y) := by
  rw [Nat.pow_add]
  exact Nat.mul_le_mul h1 h2
theorem mul_q (a b : Rat) : a * b = mkRat (a.num * b.num) (a.den * b.den) := Rat.mul_def' a b
theorem add_q (a b : Rat) : a + b = mkRat (a.num * b.den + b.num * a.den) (a.den * b.den) := Rat.add_def' a b
theorem den_ne (a b : Rat) : a.den * b.den ≠ 0 := Nat.mul_ne_zero a.den_nz b.den_nz
theorem sz_mul {a b : Rat} {x y : Nat} (h1 : Sz x a) (h2 : Sz y b) : Sz (x + y) (a * b) := by
  rw [mul_q]
  exact sz_mk (den_ne a b) (nat_mul h1.up h2.up) (den_mul h1.lo h2.lo)
theorem den_abs {q : Rat} {x : Nat} (h : q.den ≤ 2 ^ x) : (q.den : Int).natAbs ≤ 2 ^ x := by rw [Int.natAbs_natCast]; exact h
theorem add_up {a b : Rat} {x y : Nat} (h1 : Sz x a) (h2 : Sz y b) : (a.num * b.den + b.num * a.den).natAbs ≤ 2 ^ (x + y + 1) := by
  have e : 2 ^ (x + y + 1) = 2 ^ (x + y) + 2 ^ (x + y) := by rw [Nat.pow_succ]; omega
  have u := nat_mul h1.up (den_abs h2.lo)
  have v := nat_mul h2.up (den_abs h1.lo)
  rw [Nat.add_comm y x] at v
  rw [e]
  exact Nat.le_trans (Int.natAbs_add_le _ _) (Nat.add_le_add u v)
theorem sz_add {a b : Rat} {x y : Nat} (h1 : Sz x a) (h2 : Sz y b) : Sz (x + y + 1) (a + b) := by
  rw [add_q]
  exact sz_mk (den_ne a b) (add_up h1 h2) (Nat.le_trans (den_mul h1.lo h2.lo) (Nat.pow_le_pow_right (by decide) (by omega)))
theorem ixn {i : Nat} {ρ : Ro} {q : Rat} (g : G) (h : ρ[i]? = some (some (sh (dq q)))) : eBin oIx (eVar i) (eVal (.int 0)) ρ g = .ok (sh (.int q.num)) g := bin_ok (var_sh g h) rfl rfl
theorem ixd {i : Nat} {ρ : Ro} {q : Rat} (g : G) (h : ρ[i]? = some (some (sh (dq q)))) : eBin oIx (eVar i) (eVal (.int 1)) ρ g = .ok (sh (nI q.den)) g := bin_ok (var_sh g h) rfl rfl
theorem mul_n {a b : Nat} (m : mulOk (a : Int) (b : Int) = true) : oMul (nI a) (nI b) = some (sh (nI (a * b))) := by
  rw [mul_k m, ← Int.natCast_mul]
/-! ### the program's numbers -/
end K51

set_option Elab.async false
set_option linter.all false
set_option maxRecDepth 100000
set_option maxHeartbeats 1000000
namespace K51
open PySem Sx
/-! ### rows of numbers: products, putting in (plain) -/
section gen
variable {α : Type} [Add α] [Mul α] [OfNat α 0]
def inn (x : α) (i : Nat) : List α → Nat → List α → List α
  | [], _, ws => ws
  | y :: ys, j, ws => inn x i ys (j + 1) (ws.set (i + j) (ws.getD (i + j) 0 + x * y))
def outp (ys : List α) : List α → Nat → List α → List α
  | [], _, ws => ws
  | x :: xs, i, ws => outp ys xs (i + 1) (inn x i ys 0 ws)
def prodR (xs ys : List α) : List α := outp ys xs 0 (List.replicate (xs.length + ys.length - 1) 0)
def addc (c : α) : List α → List α
  | [] => [c]
  | a :: p => (a + c) :: p
def hor (f : List α) (F : List α) (c : α) : List α := match F with
  | [] => [c]
  | _ => addc c (prodR F f)
def lastQ (p : List α) : α := p.getD (p.length - 1) 0
theorem inn_len (x : α) (i : Nat) : ∀ (ys : List α) (j : Nat) (ws : List α), (inn x i ys j ws).length = ws.length
  | [], _, _ => rfl
  | y :: ys, j, ws => by rw [inn, inn_len x i ys, List.length_set]
theorem outp_len (ys : List α) : ∀ (xs : List α) (i : Nat) (ws : List α), (outp ys xs i ws).length = ws.length
  | [], _, _ => rfl
  | x :: xs, i, ws => by rw [outp, outp_len ys xs, inn_len]
theorem prod_len (xs ys : List α) : (prodR xs ys).length = xs.length + ys.length - 1 := by
  unfold prodR
  rw [outp_len, List.length_replicate]
theorem addc_len (c : α) (p : List α) (h : 1 ≤ p.length) : (addc c p).length = p.length := by
  cases p with
  | nil => exact absurd h (by simp)
  | cons a p => rfl
theorem hor_eq (f F : List α) (c : α) (h : 1 ≤ F.length) : hor f F c = addc c (prodR F f) := by
  cases F with
  | nil => exact absurd h (by simp)
  | cons a p => rfl
theorem getD_ne {ws : List α} {k l : Nat} {v : α} (h : k ≠ l) : (ws.set k v).getD l 0 = ws.getD l 0 := by
  simp [List.getD_eq_getElem?_getD, List.getElem?_set_ne h]
theorem getD_eq {ws : List α} {k : Nat} {v : α} (h : k < ws.length) : (ws.set k v).getD k 0 = v := by
  simp [List.getD_eq_getElem?_getD, h]
theorem inn_far (x : α) (i k : Nat) : ∀ (ys : List α) (j : Nat) (ws : List α), i + j + ys.length ≤ k → (inn x i ys j ws).getD k 0 = ws.getD k 0
  | [], _, _, _ => rfl
  | y :: ys, j, ws, h => by
    rw [List.length_cons] at h
    rw [inn, inn_far x i k ys (j + 1) _ (by omega), getD_ne (by omega)]
theorem last_cons (y z : α) (ys : List α) : lastQ (y :: z :: ys) = lastQ (z :: ys) := by
  unfold lastQ
  simp
theorem inn_last (x : α) (i k : Nat) : ∀ (ys : List α) (j : Nat) (ws : List α), 1 ≤ ys.length → i + j + ys.length = k + 1 → k < ws.length → (inn x i ys j ws).getD k 0 = ws.getD k 0 + x * lastQ ys
  | [], _, _, h, _, _ => absurd h (by simp)
  | [y], j, ws, _, h, hk => by
    have : k = i + j := by
      have : [y].length = 1 := rfl
      omega
    subst this
    rw [inn, inn, getD_eq hk]
    rfl
  | y :: z :: ys, j, ws, _, h, hk => by
    have h2 : i + (j + 1) + (z :: ys).length = k + 1 := by
      rw [List.length_cons] at h
      omega
    have h3 : 1 ≤ (z :: ys).length := by rw [List.length_cons]; omega
    rw [inn, inn_last x i k (z :: ys) (j + 1) _ h3 h2 (by rw [List.length_set]; exact hk), getD_ne (by omega), last_cons]
theorem outp_last (ys : List α) (hy : 1 ≤ ys.length) (k : Nat) : ∀ (xs : List α) (i : Nat) (ws : List α), 1 ≤ xs.length → i + xs.length + ys.length = k + 2 → k < ws.length → (outp ys xs i ws).getD k 0 = ws.getD k 0 + lastQ xs * lastQ ys
  | [], _, _, h, _, _ => absurd h (by simp)
  | [x], i, ws, _, h, hk => by
    have : [x].length = 1 := rfl
    rw [outp, outp, inn_last x i k ys 0 ws hy (by omega) hk]
    rfl
  | x :: z :: xs, i, ws, _, h, hk => by
    have h2 : i + 1 + (z :: xs).length + ys.length = k + 2 := by
      rw [List.length_cons] at h
      omega
    have h3 : 1 ≤ (z :: xs).length := by rw [List.length_cons]; omega
    rw [outp, outp_last ys hy k (z :: xs) (i + 1) _ h3 h2 (by rw [inn_len]; exact hk), inn_far x i k ys 0 ws (by omega), last_cons]
theorem last_addc (c : α) (p : List α) (h : 2 ≤ p.length) : lastQ (addc c p) = lastQ p := by
  match p, h with
  | [], h => exact absurd h (by simp)
  | [a], h => exact absurd h (by simp)
  | a :: b :: p, _ =>
    show lastQ ((a + c) :: b :: p) = _
    rw [last_cons, last_cons]
end gen
theorem prod_lastR (xs ys : List Rat) (hx : 1 ≤ xs.length) (hy : 1 ≤ ys.length) : lastQ (prodR xs ys) = lastQ xs * lastQ ys := by
  have l := prod_len xs ys
  unfold lastQ
  rw [l]
  unfold prodR
  rw [outp_last ys hy _ xs 0 _ hx (by omega) (by rw [List.length_replicate]; omega)]
  have : (List.replicate (xs.length + ys.length - 1) (0 : Rat)).getD (xs.length + ys.length - 1 - 1) 0 = 0 := by
    simp [List.getD_eq_getElem?_getD, List.getElem?_replicate]
    split <;> rfl
  rw [this, Rat.zero_add]
  rfl
/-! ### one within another -/
def winR (f : List Rat) : List Rat → List Rat
  | [] => []
  | c :: g => hor f (winR f g) c
def winZ (f : List Int) (B : Nat) : List Int → List Int
  | [] => []
  | c :: g => hor f (winZ f B g) (c * (B : Int) ^ g.length)
theorem win_len (f : List Rat) (m : Nat) (hf : f.length = m + 1) : ∀ (g : List Rat), 1 ≤ g.length → (winR f g).length = (g.length - 1) * m + 1
  | [], h => absurd h (by simp)
  | [c], _ => by
    show [c].length = _
    simp
  | c :: d :: g, _ => by
    have ih := win_len f m hf (d :: g) (by rw [List.length_cons]; omega)
    rw [winR, hor_eq _ _ _ (by omega), addc_len _ _ (by rw [prod_len]; omega), prod_len, ih, hf]
    have e1 : (c :: d :: g).length - 1 = ((d :: g).length - 1) + 1 := by simp
    rw [e1, Nat.succ_mul]
    omega
theorem win_last (f : List Rat) (hf : 2 ≤ f.length) : ∀ (g : List Rat), 1 ≤ g.length → lastQ (winR f g) = lastQ g * lastQ f ^ (g.length - 1)
  | [], h => absurd h (by simp)
  | [c], _ => by
    show lastQ [c] = lastQ [c] * lastQ f ^ 0
    grind
  | c :: d :: g, _ => by
    have h1 : 1 ≤ (d :: g).length := by rw [List.length_cons]; omega
    have ih := win_last f hf (d :: g) h1
    have l := win_len f (f.length - 1) (by omega) (d :: g) h1
    rw [winR, hor_eq _ _ _ (by omega), last_addc _ _ (by rw [prod_len]; omega), prod_lastR _ _ (by omega) (by omega), ih, last_cons]
    have e1 : (c :: d :: g).length - 1 = ((d :: g).length - 1) + 1 := by simp
    rw [e1]
    grind
/-! ### values -/
def ev (x : Rat) : List Rat → Rat
  | [] => 0
  | a :: p => a + x * ev x p
theorem ev_set (x : Rat) : ∀ (p : List Rat) (k : Nat) (v : Rat), k < p.length → ev x (p.set k (p.getD k 0 + v)) = ev x p + v * x ^ k
  | [], _, _, h => absurd h (by simp)
  | a :: p, 0, v, _ => by
    show (a + v) + x * ev x p = a + x * ev x p + v * x ^ 0
    grind
  | a :: p, k + 1, v, h => by
    have ih := ev_set x p k v (by rw [List.length_cons] at h; omega)
    show a + x * ev x (p.set k (p.getD k 0 + v)) = a + x * ev x p + v * x ^ (k + 1)
    rw [ih]
    grind
theorem ev_inn (x c : Rat) (i : Nat) : ∀ (ys : List Rat) (j : Nat) (ws : List Rat), i + j + ys.length ≤ ws.length → ev x (inn c i ys j ws) = ev x ws + c * x ^ (i + j) * ev x ys
  | [], j, ws, _ => by
    show ev x ws = ev x ws + c * x ^ (i + j) * 0
    grind
  | y :: ys, j, ws, h => by
    rw [List.length_cons] at h
    rw [inn, ev_inn x c i ys (j + 1) _ (by rw [List.length_set]; omega), ev_set x ws (i + j) (c * y) (by omega)]
    show _ = ev x ws + c * x ^ (i + j) * (y + x * ev x ys)
    rw [show i + (j + 1) = (i + j) + 1 by omega]
    grind
theorem ev_outp (x : Rat) (ys : List Rat) : ∀ (xs : List Rat) (i : Nat) (ws : List Rat), i + xs.length + ys.length ≤ ws.length + 1 → ev x (outp ys xs i ws) = ev x ws + x ^ i * ev x xs * ev x ys
  | [], i, ws, _ => by
    show ev x ws = ev x ws + x ^ i * 0 * ev x ys
    grind
  | c :: xs, i, ws, h => by
    rw [List.length_cons] at h
    rw [outp, ev_outp x ys xs (i + 1) _ (by rw [inn_len]; omega), ev_inn x c i ys 0 ws (by omega)]
    show _ = ev x ws + x ^ i * (c + x * ev x xs) * ev x ys
    rw [show i + 0 = i by omega]
    grind
theorem ev_zero (x : Rat) : ∀ n : Nat, ev x (List.replicate n 0) = 0
  | 0 => rfl
  | n + 1 => by
    show (0 : Rat) + x * ev x (List.replicate n 0) = 0
    rw [ev_zero x n]
    grind
theorem ev_prod (x : Rat) (xs ys : List Rat) : ev x (prodR xs ys) = ev x xs * ev x ys := by
  unfold prodR
  rw [ev_outp x ys xs 0 _ (by rw [List.length_replicate]; omega), ev_zero]
  grind
theorem ev_addc (x c : Rat) (p : List Rat) : ev x (addc c p) = ev x p + c := by
  cases p with
  | nil =>
    show c + x * 0 = 0 + c
    grind
  | cons a p =>
    show a + c + x * ev x p = a + x * ev x p + c
    grind
theorem ev_win (x : Rat) (f : List Rat) : ∀ (g : List Rat), ev x (winR f g) = ev (ev x f) g
  | [] => rfl
  | c :: g => by
    have ih := ev_win x f g
    rw [winR]
    show _ = c + ev x f * ev (ev x f) g
    by_cases e : winR f g = []
    · rw [e] at ih ⊢
      rw [← ih]
      show c + x * 0 = c + ev x f * 0
      grind
    · rw [hor_eq _ _ _ (by
        cases h : winR f g with
        | nil => exact absurd h e
        | cons a b => rw [List.length_cons]; omega), ev_addc, ev_prod, ih]
      grind
/-! ### a row of numbers is told by its values -/
def quo (r : Rat) : List Rat → List Rat
  | [] => []
  | [_] => []
  | _ :: b :: p => ev r (b :: p) :: quo r (b :: p)
theorem quo_len (r : Rat) : ∀ p : List Rat, (quo r p).length = p.length - 1
  | [] => rfl
  | [_] => rfl
  | a :: b :: p => by
    rw [quo, List.length_cons, quo_len r (b :: p)]
    rfl
theorem ev_quo (x r : Rat) : ∀ p : List Rat, ev x p = (x - r) * ev x (quo r p) + ev r p
  | [] => by
    show (0 : Rat) = (x - r) * 0 + 0
    grind
  | [a] => by
    show a + x * 0 = (x - r) * 0 + (a + r * 0)
    grind
  | a :: b :: p => by
    have ih := ev_quo x r (b :: p)
    have e1 : ev x (a :: b :: p) = a + x * ev x (b :: p) := rfl
    have e2 : ev r (a :: b :: p) = a + r * ev r (b :: p) := rfl
    have e3 : ev x (quo r (a :: b :: p)) = ev r (b :: p) + x * ev x (quo r (b :: p)) := rfl
    rw [e1, e2, e3]
    generalize ev x (b :: p) = u at *
    generalize ev r (b :: p) = v at *
    generalize ev x (quo r (b :: p)) = w at *
    rw [ih]
    grind
theorem quo_zero (r : Rat) : ∀ p : List Rat, (∀ c ∈ quo r p, c = 0) → ev r p = 0 → ∀ c ∈ p, c = 0
  | [], _, _ => fun c h => nomatch h
  | [a], _, h => fun c hc => by
    rw [List.mem_singleton] at hc
    subst hc
    have : c + r * 0 = 0 := h
    grind
  | a :: b :: p, hq, h => by
    have h1 : ev r (b :: p) = 0 := hq _ (by rw [quo]; exact List.mem_cons_self)
    have ih := quo_zero r (b :: p) (fun c hc => hq c (by rw [quo]; exact List.mem_cons_of_mem _ hc)) h1
    have e : a + r * ev r (b :: p) = 0 := h
    rw [h1] at e
    intro c hc
    rcases List.mem_cons.mp hc with rfl | hc
    · grind
    · exact ih c hc
theorem zero_of : ∀ (n : Nat) (p : List Rat) (N : Nat), p.length = n → (∀ k : Nat, N ≤ k → ev (k : Rat) p = 0) → ∀ c ∈ p, c = 0
  | 0, p, _, hl, _ => fun c hc => by
    rw [List.length_eq_zero_iff] at hl
    subst hl
    nomatch hc
  | n + 1, p, N, hl, h => by
    have h0 := h N (Nat.le_refl _)
    refine quo_zero (N : Rat) p (zero_of n (quo (N : Rat) p) (N + 1) (by rw [quo_len]; omega) fun k hk => ?_) h0
    have e := ev_quo (k : Rat) (N : Rat) p
    rw [h k (by omega), h0] at e
    have hne : (k : Rat) - (N : Rat) ≠ 0 := fun z => by
      have : (k : Rat) = (N : Rat) := by grind
      have : k = N := by exact_mod_cast this
      omega
    generalize ev (k : Rat) (quo (N : Rat) p) = w at *
    generalize (k : Rat) - (N : Rat) = d at *
    have : d * w = 0 := by grind
    rcases Rat.mul_eq_zero.mp this with h | h
    · exact absurd h hne
    · exact h
def dif : List Rat → List Rat → List Rat
  | a :: p, b :: q => (a - b) :: dif p q
  | _, _ => []
theorem ev_dif (x : Rat) : ∀ (p q : List Rat), p.length = q.length → ev x (dif p q) = ev x p - ev x q
  | [], [], _ => by
    show (0 : Rat) = 0 - 0
    grind
  | a :: p, b :: q, h => by
    have ih := ev_dif x p q (by simpa using h)
    show (a - b) + x * ev x (dif p q) = (a + x * ev x p) - (b + x * ev x q)
    rw [ih]
    grind
  | [], b :: q, h => by simp at h
  | a :: p, [], h => by simp at h
theorem dif_zero : ∀ (p q : List Rat), p.length = q.length → (∀ c ∈ dif p q, c = 0) → p = q
  | [], [], _, _ => rfl
  | a :: p, b :: q, h, hz => by
    have e : a - b = 0 := hz _ (by rw [dif]; exact List.mem_cons_self)
    have e2 : a = b := by grind
    rw [e2, dif_zero p q (by simpa using h) fun c hc => hz c (by rw [dif]; exact List.mem_cons_of_mem _ hc)]
  | [], b :: q, h, _ => by simp at h
  | a :: p, [], h, _ => by simp at h
theorem ev_one {p q : List Rat} (hl : p.length = q.length) (h : ∀ x, ev x p = ev x q) : p = q :=
  dif_zero p q hl (zero_of _ (dif p q) 0 rfl fun k _ => by rw [ev_dif _ _ _ hl, h]; grind)
end K51

set_option Elab.async false
set_option linter.all false
set_option maxRecDepth 100000
set_option maxHeartbeats 1000000
namespace K51
open PySem Sx
/-! ### whole numbers over one line -/
def rl (B : Nat) (ns : List Int) : List Rat := ns.map fun n => mkRat n B
def nrm : List Int → Nat
  | [] => 0
  | n :: ns => n.natAbs + nrm ns
theorem rl_len (B : Nat) (ns : List Int) : (rl B ns).length = ns.length := List.length_map _
theorem mk_z (B : Nat) : mkRat 0 B = 0 := by simp
theorem rl_getD (B : Nat) (ns : List Int) (k : Nat) : (rl B ns).getD k 0 = mkRat (ns.getD k 0) B := by
  unfold rl
  rw [List.getD_eq_getElem?_getD, List.getD_eq_getElem?_getD, List.getElem?_map]
  cases ns[k]? with
  | none => simp
  | some n => rfl
theorem rl_set (B : Nat) (ns : List Int) (k : Nat) (v : Int) : rl B (ns.set k v) = (rl B ns).set k (mkRat v B) := by
  unfold rl
  rw [List.map_set]
theorem mk_add {B : Nat} (hB : B ≠ 0) (a b : Int) : mkRat a B + mkRat b B = mkRat (a + b) B := by
  rw [Rat.mkRat_add_mkRat _ _ hB hB, ← Int.add_mul]
  exact Rat.mkRat_mul_right hB
theorem mk_scale {B k : Nat} (hk : k ≠ 0) (a : Int) : mkRat (a * k) (B * k) = mkRat a B := Rat.mkRat_mul_right hk
theorem inn_rl {B C : Nat} (hB : B ≠ 0) (hC : C ≠ 0) (x : Int) (i : Nat) : ∀ (ys : List Int) (j : Nat) (ws : List Int), rl (B * C) (inn x i ys j ws) = inn (mkRat x B) i (rl C ys) j (rl (B * C) ws)
  | [], _, _ => rfl
  | y :: ys, j, ws => by
    rw [inn, inn_rl hB hC x i ys (j + 1), rl_set]
    show _ = inn (mkRat x B) i (rl C ys) (j + 1) ((rl (B * C) ws).set (i + j) ((rl (B * C) ws).getD (i + j) 0 + mkRat x B * mkRat y C))
    rw [rl_getD, Rat.mkRat_mul_mkRat, mk_add (Nat.mul_ne_zero hB hC)]
theorem outp_rl {B C : Nat} (hB : B ≠ 0) (hC : C ≠ 0) (ys : List Int) : ∀ (xs : List Int) (i : Nat) (ws : List Int), rl (B * C) (outp ys xs i ws) = outp (rl C ys) (rl B xs) i (rl (B * C) ws)
  | [], _, _ => rfl
  | x :: xs, i, ws => by
    rw [outp, outp_rl hB hC ys xs (i + 1), inn_rl hB hC]
    rfl
theorem rl_rep (B n : Nat) : rl B (List.replicate n 0) = List.replicate n 0 := by
  unfold rl
  rw [List.map_replicate, mk_z]
theorem prod_rl {B C : Nat} (hB : B ≠ 0) (hC : C ≠ 0) (xs ys : List Int) : rl (B * C) (prodR xs ys) = prodR (rl B xs) (rl C ys) := by
  unfold prodR
  rw [outp_rl hB hC, rl_rep, rl_len, rl_len]
theorem addc_rl {B : Nat} (hB : B ≠ 0) (c : Int) (p : List Int) : rl B (addc c p) = addc (mkRat c B) (rl B p) := by
  cases p with
  | nil => rfl
  | cons a p =>
    show mkRat (a + c) B :: rl B p = (mkRat a B + mkRat c B) :: rl B p
    rw [mk_add hB]
theorem winZ_len (f : List Int) (m : Nat) (hf : f.length = m + 1) (B : Nat) : ∀ (g : List Int), 1 ≤ g.length → (winZ f B g).length = (g.length - 1) * m + 1
  | [], h => absurd h (by simp)
  | [c], _ => by
    show [_].length = _
    simp
  | c :: d :: g, _ => by
    have ih := winZ_len f m hf B (d :: g) (by rw [List.length_cons]; omega)
    rw [winZ, hor_eq _ _ _ (by omega), addc_len _ _ (by rw [prod_len]; omega), prod_len, ih, hf]
    have e1 : (c :: d :: g).length - 1 = ((d :: g).length - 1) + 1 := by simp
    rw [e1, Nat.succ_mul]
    omega
theorem win_rl {B C : Nat} (hB : B ≠ 0) (hC : C ≠ 0) (f : List Int) (hf : 1 ≤ f.length) : ∀ (g : List Int), rl (B ^ (g.length - 1) * C) (winZ f B g) = winR (rl B f) (rl C g)
  | [] => rfl
  | [c] => by
    show [mkRat (c * (B : Int) ^ 0) (B ^ 0 * C)] = [mkRat c C]
    simp
  | c :: d :: g => by
    have ih := win_rl hB hC f hf (d :: g)
    have l := winZ_len f (f.length - 1) (by omega) B (d :: g) (by rw [List.length_cons]; omega)
    have l2 := win_len (rl B f) (f.length - 1) (by rw [rl_len]; omega) (rl C (d :: g)) (by rw [rl_len, List.length_cons]; omega)
    have e1 : (c :: d :: g).length - 1 = ((d :: g).length - 1) + 1 := by simp
    have hp : B ^ ((d :: g).length - 1) * C ≠ 0 := Nat.mul_ne_zero (Nat.pos_iff_ne_zero.mp (Nat.pow_pos (by omega))) hC
    have e2 : B ^ ((d :: g).length - 1 + 1) * C = B ^ ((d :: g).length - 1) * C * B := by rw [Nat.pow_succ, Nat.mul_right_comm]
    have e3 : (d :: g).length = ((d :: g).length - 1) + 1 := by simp
    rw [winZ, hor_eq _ _ _ (by omega), e1, e2, addc_rl (Nat.mul_ne_zero hp hB), prod_rl hp hB, ih]
    show _ = hor (rl B f) (winR (rl B f) (rl C (d :: g))) (mkRat c C)
    rw [hor_eq _ _ _ (by omega)]
    congr 1
    rw [← e2, e3, Nat.mul_comm]
    show mkRat (c * (B : Int) ^ ((d :: g).length - 1 + 1)) (C * B ^ ((d :: g).length - 1 + 1)) = _
    rw [← Int.natCast_pow]
    exact mk_scale (Nat.pos_iff_ne_zero.mp (Nat.pow_pos (by omega))) c
/-! ### sizes -/
theorem nrm_getD : ∀ (ws : List Int) (k : Nat), (ws.getD k 0).natAbs ≤ nrm ws
  | [], k => by simp
  | a :: ws, 0 => Nat.le_add_right _ _
  | a :: ws, k + 1 => Nat.le_trans (nrm_getD ws k) (Nat.le_add_left _ _)
theorem nrm_mem : ∀ {ws : List Int} {z : Int}, z ∈ ws → z.natAbs ≤ nrm ws
  | a :: ws, z, h => by
    rcases List.mem_cons.mp h with rfl | h
    · exact Nat.le_add_right _ _
    · exact Nat.le_trans (nrm_mem h) (Nat.le_add_left _ _)
theorem nrm_set : ∀ (ws : List Int) (k : Nat) (v : Int), nrm (ws.set k (ws.getD k 0 + v)) ≤ nrm ws + v.natAbs
  | [], _, _ => Nat.zero_le _
  | a :: ws, 0, v => by
    show (a + v).natAbs + nrm ws ≤ a.natAbs + nrm ws + v.natAbs
    have := Int.natAbs_add_le a v
    omega
  | a :: ws, k + 1, v => by
    have := nrm_set ws k v
    show a.natAbs + nrm (ws.set k (ws.getD k 0 + v)) ≤ a.natAbs + nrm ws + v.natAbs
    omega
theorem nrm_inn (x : Int) (i : Nat) : ∀ (ys : List Int) (j : Nat) (ws : List Int), nrm (inn x i ys j ws) ≤ nrm ws + x.natAbs * nrm ys
  | [], _, _ => Nat.le_add_right _ _
  | y :: ys, j, ws => by
    rw [inn]
    have h1 := nrm_inn x i ys (j + 1) (ws.set (i + j) (ws.getD (i + j) 0 + x * y))
    have h2 := nrm_set ws (i + j) (x * y)
    have h3 : x.natAbs * nrm (y :: ys) = (x * y).natAbs + x.natAbs * nrm ys := by
      rw [nrm, Nat.mul_add, Int.natAbs_mul]
    omega
theorem nrm_outp (ys : List Int) : ∀ (xs : List Int) (i : Nat) (ws : List Int), nrm (outp ys xs i ws) ≤ nrm ws + nrm xs * nrm ys
  | [], _, _ => Nat.le_add_right _ _
  | x :: xs, i, ws => by
    rw [outp]
    have h1 := nrm_outp ys xs (i + 1) (inn x i ys 0 ws)
    have h2 := nrm_inn x i ys 0 ws
    have h3 : nrm (x :: xs) * nrm ys = x.natAbs * nrm ys + nrm xs * nrm ys := by rw [nrm, Nat.add_mul]
    omega
theorem nrm_rep : ∀ n : Nat, nrm (List.replicate n 0) = 0
  | 0 => rfl
  | n + 1 => by
    show (0 : Int).natAbs + nrm (List.replicate n 0) = 0
    rw [nrm_rep n]
    rfl
theorem nrm_prod (xs ys : List Int) : nrm (prodR xs ys) ≤ nrm xs * nrm ys := by
  have := nrm_outp ys xs 0 (List.replicate (xs.length + ys.length - 1) 0)
  rw [nrm_rep] at this
  unfold prodR
  omega
theorem nrm_addc (c : Int) (p : List Int) : nrm (addc c p) ≤ nrm p + c.natAbs := by
  cases p with
  | nil =>
    show c.natAbs + 0 ≤ 0 + c.natAbs
    omega
  | cons a p =>
    show (a + c).natAbs + nrm p ≤ a.natAbs + nrm p + c.natAbs
    have := Int.natAbs_add_le a c
    omega
theorem nrm_win {f : List Int} {B X : Nat} (hf : nrm f ≤ X) (hB : B ≤ X) (h1 : 1 ≤ f.length) : ∀ (g : List Int), nrm (winZ f B g) ≤ nrm g * X ^ (g.length - 1)
  | [] => Nat.zero_le _
  | [c] => by
    show (c * (B : Int) ^ 0).natAbs + 0 ≤ (c.natAbs + 0) * X ^ 0
    simp
  | c :: d :: g => by
    have ih := nrm_win hf hB h1 (d :: g)
    have l := winZ_len f (f.length - 1) (by omega) B (d :: g) (by rw [List.length_cons]; omega)
    have e1 : (c :: d :: g).length - 1 = ((d :: g).length - 1) + 1 := by simp
    have e3 : (d :: g).length = ((d :: g).length - 1) + 1 := by simp
    rw [winZ, hor_eq _ _ _ (by omega), e1]
    refine Nat.le_trans (nrm_addc _ _) ?_
    have p1 := nrm_prod (winZ f B (d :: g)) f
    have p2 : nrm (winZ f B (d :: g)) * nrm f ≤ nrm (d :: g) * X ^ ((d :: g).length - 1) * X := Nat.mul_le_mul ih hf
    have p3 : (c * (B : Int) ^ (d :: g).length).natAbs ≤ c.natAbs * X ^ ((d :: g).length - 1 + 1) := by
      rw [Int.natAbs_mul, Int.natAbs_pow, Int.natAbs_natCast, e3]
      exact Nat.mul_le_mul (Nat.le_refl _) (Nat.pow_le_pow_left hB _)
    have p4 : nrm (c :: d :: g) * X ^ ((d :: g).length - 1 + 1) = c.natAbs * X ^ ((d :: g).length - 1 + 1) + nrm (d :: g) * X ^ ((d :: g).length - 1) * X := by
      rw [show nrm (c :: d :: g) = c.natAbs + nrm (d :: g) from rfl, Nat.add_mul, Nat.pow_succ, Nat.mul_assoc (nrm (d :: g))]
    omega
/-- a row of numbers that is held: over one line, all together at most 2 ^ t -/
def Hd (t : Nat) (qs : List Rat) : Prop := ∃ (B : Nat) (ns : List Int), B ≠ 0 ∧ qs = rl B ns ∧ nrm ns ≤ 2 ^ t ∧ B ≤ 2 ^ t
theorem mk_sz {B w : Nat} {n : Int} (hB : B ≠ 0) (h1 : n.natAbs ≤ 2 ^ w) (h2 : B ≤ 2 ^ w) : Sz w (mkRat n B) := sz_mk hB h1 h2
theorem win_hd {f g : List Rat} {t e : Nat} (hf : Hd t f) (hg : Hd e g) (h1 : 1 ≤ f.length) : Hd (e + (g.length - 1) * t) (winR f g) := by
  obtain ⟨B, fs, hB, rfl, n1, b1⟩ := hf
  obtain ⟨C, gs, hC, rfl, n2, b2⟩ := hg
  rw [rl_len] at h1 ⊢
  refine ⟨B ^ (gs.length - 1) * C, winZ fs B gs, Nat.mul_ne_zero (Nat.pos_iff_ne_zero.mp (Nat.pow_pos (by omega))) hC, (win_rl hB hC fs h1 gs).symm, ?_, ?_⟩
  · refine Nat.le_trans (nrm_win n1 b1 h1 gs) ?_
    rw [← Nat.pow_mul, Nat.pow_add, Nat.mul_comm t]
    exact Nat.mul_le_mul n2 (Nat.le_refl _)
  · rw [Nat.pow_add, Nat.mul_comm (2 ^ e), Nat.mul_comm (gs.length - 1) t, Nat.pow_mul]
    exact Nat.mul_le_mul (Nat.pow_le_pow_left b1 _) b2
theorem Hd.mono {t u : Nat} {qs : List Rat} (h : Hd t qs) (hu : t ≤ u) : Hd u qs := by
  obtain ⟨B, ns, hB, e, n1, b1⟩ := h
  exact ⟨B, ns, hB, e, Nat.le_trans n1 (Nat.pow_le_pow_right (by decide) hu), Nat.le_trans b1 (Nat.pow_le_pow_right (by decide) hu)⟩
theorem Hd.mem {t : Nat} {qs : List Rat} (h : Hd t qs) : ∀ q ∈ qs, Sz t q := fun q hq => by
  obtain ⟨B, ns, hB, rfl, n1, b1⟩ := h
  obtain ⟨n, hn, rfl⟩ := List.mem_map.mp hq
  exact mk_sz hB (Nat.le_trans (nrm_mem hn) n1) b1
end K51

set_option Elab.async false
set_option linter.all false
set_option maxRecDepth 100000
set_option maxHeartbeats 1000000
namespace K51
open PySem Sx
abbrev P (qs : List Rat) : D := .tup (qs.map dq)
theorem and_t {f k : E} {ρ : Ro} {b : B} {g g1 g2 : G} (h : f ρ g = .ok (sh (.bl true)) g1) (h2 : k ρ g1 = .ok b g2) : eAnd f k ρ g = .ok b g2 := by
  unfold eAnd
  rw [h]
  exact h2
theorem and_f {f k : E} {ρ : Ro} {g g1 : G} (h : f ρ g = .ok (sh (.bl false)) g1) : eAnd f k ρ g = .ok (sh (.bl false)) g1 := by
  unfold eAnd
  rw [h]
  rfl
theorem ife_t {c f k : E} {ρ : Ro} {b : B} {g g1 g2 : G} (h : c ρ g = .ok (sh (.bl true)) g1) (h2 : f ρ g1 = .ok b g2) : eIf c f k ρ g = .ok b g2 := by
  unfold eIf
  rw [h]
  exact h2
theorem ife_f {c f k : E} {ρ : Ro} {b : B} {g g1 g2 : G} (h : c ρ g = .ok (sh (.bl false)) g1) (h2 : k ρ g1 = .ok b g2) : eIf c f k ρ g = .ok b g2 := by
  unfold eIf
  rw [h]
  exact h2
theorem setIx_ok {i : Nat} {e f : E} {ρ : Ro} {g g1 g2 : G} {b k : B} {d d1 : D} (hv : f ρ g = .ok b g1) (hb : b.t ≠ .bw) (hr : ρ[i]? = some (some (ow d))) (he : e ρ g1 = .ok k g2) (hm : mSetIx d k.d b.d = some d1) : sSetIx i e f ρ g = .nx (ρ.set i (some (ow d1))) g2 := by
  rw [sSetIx_0]
  unfold sSetIx0
  rw [hv]
  obtain ⟨t, bd⟩ := b
  cases t with
  | bw => exact absurd rfl hb
  | sh =>
    simp only [onR, hr, he, hm]
  | ow =>
    simp only [onR, hr, he, hm]
theorem for_2 {b : S} {i j : Nat} {x y : D} {xs : List D} {ρ ρ1 : Ro} {g g1 : G} (h : b ((ρ.set i (oS x)).set j (oS y)) g = .nx ρ1 g1) : forL (.two (.v i) (.v j)) b (.tup [x, y] :: xs) ρ g = forL (.two (.v i) (.v j)) b xs ρ1 g1 := by
  conv => lhs; unfold forL
  have e : (Tg.two (.v i) (.v j)).put (.tup [x, y]) ρ = some ((ρ.set i (oS x)).set j (oS y)) := by
    rw [Tg.put, put_v]
    dsimp only
    rw [put_v]
  rw [e]
  dsimp only
  rw [h]
theorem getD_at {α : Type} [OfNat α 0] {ws : List α} {k : Nat} (h : k < ws.length) : ws.getD k 0 = ws[k] := by simp [h]
theorem ixN_k {n k : Nat} (h : k < n) : ixN' n (k : Int) = some k := by
  unfold ixN'
  rw [if_pos (by omega), if_pos (by omega), Int.toNat_natCast]
theorem at_q {ws : List Rat} {k : Nat} (h : k < ws.length) : atD (ws.map dq) (k : Int) = some (dq (ws.getD k 0)) := by
  unfold atD
  rw [ixN_k (by rw [List.length_map]; exact h)]
  show (ws.map dq)[k]? = _
  rw [List.getElem?_map, List.getElem?_eq_getElem h, getD_at h]
  rfl
theorem lastT (ys : List D) (z : D) : atD (ys ++ [z]) (-1) = some z := by
  have e : ixN' (ys ++ [z]).length (-1) = some ys.length := by
    unfold ixN'
    rw [if_neg (by omega), if_pos (by rw [List.length_append, List.length_singleton]; omega), List.length_append, List.length_singleton]
    congr 1
    omega
  unfold atD
  rw [e]
  show (ys ++ [z])[ys.length]? = _
  rw [List.getElem?_append_right (Nat.le_refl _), Nat.sub_self]
  rfl
theorem split_last {α : Type} [OfNat α 0] : ∀ (p : List α), 1 ≤ p.length → p = p.dropLast ++ [lastQ p]
  | [], h => absurd h (by simp)
  | [a], _ => rfl
  | a :: b :: p, _ => by
    have ih := split_last (b :: p) (by rw [List.length_cons]; omega)
    have e : lastQ (a :: b :: p) = lastQ (b :: p) := by
      unfold lastQ
      simp
    rw [List.dropLast_cons_of_ne_nil (by simp), List.cons_append, e, ← ih]
theorem at_last {p : List Rat} (h : 1 ≤ p.length) : atD (p.map dq) (-1) = some (dq (lastQ p)) := by
  conv => lhs; rw [split_last p h]
  rw [List.map_append]
  exact lastT _ _
theorem dq_ne0 {q : Rat} (h : q ≠ 0) : oEq (dq q) (fr 0 1) = some (sh (.bl false)) := by
  show some (sh (.bl ((q.num == 0) && (((q.den : Int) == 1) && true)))) = _
  have : q.num ≠ 0 := fun z => h (Rat.num_eq_zero.mp z)
  rw [beq_eq_false_iff_ne.mpr this]
  rfl
/-! ### needless noughts -/
abbrev cTrim : E := eAnd (eBin oGt (eUn oLen (eVar 1)) (eVal (.int 1))) (eBin oEq (eBin oIx (eVar 1) (eUn oNeg (eVal (.int 1)))) (eTup [(eVal (.int 0)), (eVal (.int 1))]))
theorem trim_c1 (d : D) (ds : List D) (g : G) : eBin oGt (eUn oLen (eVar 1)) (eVal (.int 1)) [oS d, some (ow (.lst ds))] g = .ok (sh (.bl (decide ((1 : Int) < (ds.length : Int))))) g := bin_ok (x := sh (.int (ds.length : Int))) (y := sh (.int 1)) (un_ok (x := bw (.lst ds)) rfl rfl) rfl rfl
theorem cut_end (ds : List D) (z : D) : cutEnd (ds ++ [z]) = some ds := by
  induction ds with
  | nil => rfl
  | cons a ds ih =>
    cases ds with
    | nil => rfl
    | cons b ds =>
      show (match cutEnd ((b :: ds) ++ [z]) with | some es => some (a :: es) | none => none) = _
      rw [ih]
theorem trim_loop (d : D) (g : G) : ∀ (n k : Nat), n + 1 ≤ k → whileF cTrim (sPop 1) k [oS d, some (ow (.lst (List.replicate (n + 1) (fr 0 1))))] g = .nx [oS d, some (ow (.lst [fr 0 1]))] g
  | _, 0, h => absurd h (by omega)
  | 0, k + 1, _ => wE (and_f (trim_c1 d _ g))
  | n + 1, k + 1, h => by
    have e1 := trim_c1 d (List.replicate (n + 1 + 1) (fr 0 1)) g
    rw [List.length_replicate, decide_eq_true (by omega)] at e1
    have sp : List.replicate (n + 1 + 1) (fr 0 1) = List.replicate (n + 1) (fr 0 1) ++ [fr 0 1] := List.replicate_succ'
    have e2 : cTrim [oS d, some (ow (.lst (List.replicate (n + 1 + 1) (fr 0 1))))] g = .ok (sh (.bl true)) g := by
      refine and_t e1 (bin_ok (x := sh (fr 0 1)) (y := sh (fr 0 1)) (bin_ok (x := bw (.lst (List.replicate (n + 1 + 1) (fr 0 1)))) (y := sh (.int (-1))) rfl rfl ?_) rfl rfl)
      show (match atD (List.replicate (n + 1 + 1) (fr 0 1)) (-1) with | some d => some (sh d) | none => none) = _
      rw [sp, lastT]
    have e3 : sPop 1 [oS d, some (ow (.lst (List.replicate (n + 1 + 1) (fr 0 1))))] g = .nx [oS d, some (ow (.lst (List.replicate (n + 1) (fr 0 1))))] g := by
      show (match cutEnd (List.replicate (n + 1 + 1) (fr 0 1)) with | some ds1 => SR.nx ([oS d, some (ow (.lst (List.replicate (n + 1 + 1) (fr 0 1))))].set 1 (some (ow (.lst ds1)))) g | none => .no) = _
      rw [sp, cut_end]
      rfl
    rw [wS e2 e3]
    exact trim_loop d g n k (by omega)
/-! ### products -/
section
variable {B C s : Nat} (hB : B ≠ 0) (hC : C ≠ 0) (hs2 : B * C ≤ 2 ^ s) (hs : s + s + 1 ≤ 8000)
include hB hC hs2 hs
theorem sz_B {n : Int} (h : n.natAbs ≤ 2 ^ s) : Sz s (mkRat n B) := mk_sz hB h (Nat.le_trans (Nat.le_mul_of_pos_right _ (by omega)) hs2)
theorem sz_C {n : Int} (h : n.natAbs ≤ 2 ^ s) : Sz s (mkRat n C) := mk_sz hC h (Nat.le_trans (Nat.le_mul_of_pos_left _ (by omega)) hs2)
end
theorem rep_flat (n : Nat) : (List.replicate n [fr 0 1]).flatten = (List.replicate n (0 : Rat)).map dq := by
  induction n with
  | zero => rfl
  | succ n ih =>
    rw [List.replicate_succ, List.replicate_succ, List.flatten_cons, ih, List.map_cons]
    rfl
end K51

set_option Elab.async false
set_option linter.all false
set_option maxRecDepth 100000
set_option maxHeartbeats 1000000
namespace K51
open PySem Sx
/-! ### what is a number, a step, a row -/
theorem from_ok {v lo hi : Int} (h1 : lo ≤ v) (h2 : v ≤ hi) (g : G) : m_is_from [.int v, .int lo, .int hi] g = .ok (sh (.bl true)) g := by
  simp [m_is_from, fnOf, b_is_from, ends, sRet, onR, eAnd, eNot, eUn, eBin, eVar, eChain, oIs, isTy, oLe, R.bind, ro0, h1, h2]
theorem hund : (2 ^ 199 : Nat) ≤ 10 ^ 60 := by decide +kernel
/-- a number that a parameter may have -/
structure Nm (q : Rat) : Prop where
  up : q.num.natAbs ≤ 10 ^ 60
  lo : q.den ≤ 10 ^ 60
theorem Sz.nm {q : Rat} (h : Sz 199 q) : Nm q := ⟨Nat.le_trans h.up hund, Nat.le_trans h.lo hund⟩
theorem num_nm {q : Rat} (h : Nm q) (g : G) : m_is_number [dq q] g = .ok (sh (.bl true)) g := by
  have u := h.up
  have v := h.lo
  have h1 := q.den_nz
  have c2 : Nat.gcd q.num.natAbs q.den = 1 := q.reduced
  have a := from_ok (v := q.num) (lo := -c_MOST_PART) (hi := c_MOST_PART) (by unfold c_MOST_PART; omega) (by unfold c_MOST_PART; omega) g
  have b := from_ok (v := (q.den : Int)) (lo := 1) (hi := c_MOST_PART) (by omega) (by unfold c_MOST_PART; omega) g
  simp [m_is_number, fnOf, b_is_number, ends, sRet, sIf, sSeq, sPass, onR, eOr, eNot, eUn, eBin, eVar, eVal, oIs, isTy, oLen, oNe, oEq, oIx, oNeg, oGcd, plainAt, eqAt, DEEP, atD, ixN', R.bind, ro0, eCall_0, eCall0, eArgs, a, b, c2]
def bStep : S := sIf (eNot (eCall m_is_number [(eVar 1)])) (sRet (eVal (.bl false))) sPass
theorem step_loop (s : O) (g : G) : ∀ (l : List Rat) (t : O), (∀ q ∈ l, Nm q) → ∃ t', forL (.v 1) bStep (l.map dq) [s, t] g = .nx [s, t'] g
  | [], t, _ => ⟨t, rfl⟩
  | x :: l, t, h => by
    obtain ⟨t', e⟩ := step_loop s g l (oS (dq x)) fun y hy => h y (List.mem_cons_of_mem _ hy)
    refine ⟨t', ?_⟩
    have b : bStep ([s, t].set 1 (some (sh (dq x)))) g = .nx [s, some (sh (dq x))] g := by
      unfold bStep
      rw [if_f (not_ok (b := true) (call_1 (x := sh (dq x)) rfl (tsh _) (num_nm (h x List.mem_cons_self) g)))]
      rfl
    rw [List.map_cons, for_1 b]
    exact e
theorem m_step_eq (a : D) (g : G) : m_is_step [a] g = ends (b_is_step [some (sh a), none] g) := rfl
structure Wn (p : List Rat) : Prop where
  nm : ∀ q ∈ p, Nm q
  l1 : 2 ≤ p.length
  l2 : p.length ≤ 65
  nz : lastQ p ≠ 0
theorem is_step_n {p : List Rat} (h : Wn p) (g : G) : m_is_step [P p] g = .ok (sh (.bl true)) g := by
  have hl := h.l1
  have hl2 := h.l2
  obtain ⟨t', e⟩ := step_loop (oS (P p)) g p none h.nm
  have la : atD (p.map dq) (-1) = some (dq (lastQ p)) := at_last (by omega)
  have s1 : sIf (eOr (eNot (eUn (oIs Ty.tuple) (eVar 0))) (eNot (eChain oLe oLe (eVal (.int 2)) (eUn oLen (eVar 0)) (eBin oAdd (eVal (.int c_MOST_DEGREE)) (eVal (.int 1)))))) (sRet (eVal (.bl false))) sPass [oS (P p), none] g = .nx [oS (P p), none] g := by
    have q1 : (2 : Int) ≤ (p.length : Int) := by omega
    have q2 : (p.length : Int) ≤ c_MOST_DEGREE + 1 := by unfold c_MOST_DEGREE; omega
    simp [sIf, eOr, eNot, eUn, eBin, eChain, eVar, eVal, oIs, isTy, oLe, oLen, oAdd, onR, R.bind, sPass, q1, q2]
  have s2 : sFor (iSeq (eVar 0)) (.v 1) bStep [oS (P p), none] g = .nx [oS (P p), t'] g := sFor_0 (ds := p.map dq) (g1 := g) rfl e
  have e3 : eBin oNe (eBin oIx (eBin oIx (eVar 0) (eUn oNeg (eVal (.int 1)))) (eVal (.int 0))) (eVal (.int 0)) [oS (P p), t'] g = .ok (sh (.bl true)) g := by
    refine bin_ok (x := sh (.int (lastQ p).num)) (y := sh (.int 0)) (bin_ok (x := sh (dq (lastQ p))) (y := sh (.int 0)) (bin_ok (x := sh (P p)) (y := sh (.int (-1))) rfl rfl ?_) rfl rfl) rfl ?_
    · show (match atD (p.map dq) (-1) with | some d => some (sh d) | none => none) = _
      rw [la]
    · show some (sh (.bl (!((lastQ p).num == 0)))) = _
      rw [beq_eq_false_iff_ne.mpr fun z => h.nz (Rat.num_eq_zero.mp z)]
      rfl
  rw [m_step_eq]
  show ends (sSeq _ (sSeq (sFor (iSeq (eVar 0)) (.v 1) bStep) _) _ g) = _
  rw [seq_nx s1, seq_nx s2, ret_ok e3]
  rfl
theorem need_step_n {p : List Rat} (h : Wn p) (g : G) : m_need_step [P p] g = .ok (sh (P p)) g := by
  have a := is_step_n h g
  have q0 : ∀ a : D, m_need_step [a] g = ends (b_need_step [oS a] g) := fun a => rfl
  rw [q0]
  unfold b_need_step
  rw [seq_nx (by rw [if_f (not_ok (b := true) (call_1 (x := sh (P p)) rfl (tsh _) a))]; rfl)]
  rfl
end K51

set_option Elab.async false
set_option linter.all false
set_option maxRecDepth 100000
set_option maxHeartbeats 1000000
namespace K51
open PySem Sx
def Wr (k n : Nat) (d : D) : Prop := plainAt k d = true ∧ ∃ m, showAt k d = some m ∧ m ≤ n
theorem Wr.le {k n n' : Nat} {d : D} (h : Wr k n d) (hn : n ≤ n') : Wr k n' d := by
  obtain ⟨h1, m, h2, h3⟩ := h
  exact ⟨h1, m, h2, by omega⟩
theorem wr_int {k : Nat} {i : Int} (h : i.natAbs ≤ 2 ^ 1900) : Wr k 1921 (.int i) := by
  have l : i.natAbs.log2 < 1920 := by
    have := log_le h
    omega
  refine ⟨by cases k <;> rfl, 1921, ?_, Nat.le_refl _⟩
  cases k <;> (unfold showAt; rw [if_pos l])
theorem sum_wr {k n : Nat} : ∀ ds : List D, (∀ d ∈ ds, Wr k n d) → ∃ m, sumO (ds.map (showAt k)) = some m ∧ m ≤ ds.length * n
  | [], _ => ⟨0, rfl, Nat.zero_le _⟩
  | d :: ds, h => by
    obtain ⟨_, m, e1, l1⟩ := h d List.mem_cons_self
    obtain ⟨m2, e2, l2⟩ := sum_wr ds fun x hx => h x (List.mem_cons_of_mem _ hx)
    refine ⟨m + m2, ?_, ?_⟩
    · rw [List.map_cons, e1]
      show (match sumO (ds.map (showAt k)) with | some b => some (m + b) | none => none) = _
      rw [e2]
    · rw [List.length_cons, Nat.succ_mul]
      omega
theorem plain_wr {k n : Nat} {ds : List D} (h : ∀ d ∈ ds, Wr k n d) : ds.all (plainAt k) = true := by
  rw [List.all_eq_true]
  exact fun d hd => (h d hd).1
theorem wr_tup {k n : Nat} {ds : List D} (h : ∀ d ∈ ds, Wr k n d) : Wr (k + 1) (ds.length * n + 2 * ds.length + 4) (.tup ds) := by
  obtain ⟨m, e, l⟩ := sum_wr ds h
  refine ⟨plain_wr h, m + 2 * ds.length + 4, ?_, by omega⟩
  show (match sumO (ds.map (showAt k)) with | some k => some (k + 2 * ds.length + 4) | none => none) = _
  rw [e]
theorem wr_lst {k n : Nat} {ds : List D} (h : ∀ d ∈ ds, Wr k n d) : Wr (k + 1) (ds.length * n + 2 * ds.length + 4) (.lst ds) := by
  obtain ⟨m, e, l⟩ := sum_wr ds h
  refine ⟨plain_wr h, m + 2 * ds.length + 4, ?_, by omega⟩
  show (match sumO (ds.map (showAt k)) with | some k => some (k + 2 * ds.length + 4) | none => none) = _
  rw [e]
theorem wr_dq {k : Nat} {q : Rat} (h : Sz 1900 q) : Wr (k + 1) 4000 (dq q) := (wr_tup (n := 1921) fun d hd => by
  rcases List.mem_cons.mp hd with rfl | hd
  · exact wr_int h.up
  · rw [List.mem_singleton] at hd
    subst hd
    exact wr_int (den_abs h.lo)).le (by show 2 * 1921 + 2 * 2 + 4 ≤ 4000; decide)
theorem wr_dqs {k : Nat} {p : List Rat} (h : ∀ q ∈ p, Sz 1900 q) (hl : p.length ≤ 300) : Wr (k + 2) 1300000 (P p) := (wr_tup (n := 4000) fun d hd => by
  obtain ⟨q, hq, rfl⟩ := List.mem_map.mp hd
  exact wr_dq (h q hq)).le (by rw [List.length_map]; omega)
theorem wr_nat {k n : Nat} (h : n ≤ 5000) : Wr k 1921 (nI n) := wr_int (by
  rw [Int.natAbs_natCast]
  exact Nat.le_trans h (Nat.le_trans (by decide : 5000 ≤ 2 ^ 13) (Nat.pow_le_pow_right (by decide) (by decide))))
theorem can_wr {n : Nat} {d : D} (h : Wr DEEP n d) (hn : n ≤ 16000000) : canShow d = true := by
  obtain ⟨h1, m, h2, h3⟩ := h
  unfold canShow
  rw [h1, h2]
  show (true && decide (m ≤ 16000000)) = true
  rw [decide_eq_true (by omega)]
  rfl
theorem like_ok {d : D} (h : canShow d = true) (g : G) : m__law_like [d, d] g = .ok (sh (.bl true)) g := by
  have s : reprSame d d = true := by
    unfold reprSame
    rw [decide_eq_true rfl, Bool.or_true]
  simp [m__law_like, fnOf, b__law_like, ends, sRet, onR, eRepr, eVar, R.bind, ro0, h, s]
/-! ### draws -/
theorem draw_is {gs : GS} {n l : Int} (G : GOk gs n) (hn : n ≤ 2000) (hl : 0 < l) (hl2 : l ≤ 5000) :
    ∃ (r : Nat) (gs' : GS), m__law_draw [.st, .int l] (some gs) = .ok (sh (nI r)) (some gs') ∧ (r : Int) < l ∧ GOk gs' (n + 1) := by
  have h200 : (5000 : Int) ≤ 2 ^ 200 := by decide +kernel
  obtain ⟨r, gs1, e1, b1, G1⟩ := draw_ok (l := l) G (by omega) hl (by omega)
  obtain ⟨k, hk⟩ : ∃ k : Nat, r = k := ⟨r.toNat, by omega⟩
  subst hk
  exact ⟨k, gs1, e1, b1.2, G1⟩
theorem dr_ok {l : Int} {r : Nat} {ρ : Ro} {g g1 : G} (h0 : ρ[0]? = some (oS .st)) (e : m__law_draw [.st, .int l] g = .ok (sh (nI r)) g1) : eCall m__law_draw [(eVar 0), (eVal (.int l))] ρ g = .ok (sh (nI r)) g1 :=
  call_a (a2 (var_sh g h0) rfl) e
/-- a drawn number -/
theorem number_is {gs : GS} {n : Int} {m d : Nat} (hm : m ≤ 100) (d1 : 1 ≤ d) (d6 : d ≤ 100) (G0 : GOk gs n) (hn : n ≤ 1900) : ∃ (a : Int) (b : Nat) (gs' : GS), m__law_number [.st, nI m, nI d] (some gs) = .ok (sh (dq (mkRat a b))) (some gs') ∧ a.natAbs ≤ m ∧ b ≠ 0 ∧ b ≤ d ∧ GOk gs' (n + 2) := by
  obtain ⟨a, g1, e1, b1, G1⟩ := draw_is (l := 2 * (m : Int) + 1) G0 (by omega) (by omega) (by omega)
  obtain ⟨b, g2, e2, b2, G2⟩ := draw_is (l := (d : Int)) G1 (by omega) (by omega) (by omega)
  have p7 : 2 ^ 7 ≤ 2 ^ 8000 := Nat.pow_le_pow_right (by decide) (by decide)
  have f := frac_rat (n := (a : Int) - m) (d := 1 + b) (by omega) (by
    have : 100 ≤ 2 ^ 7 := by decide
    omega) (some g2)
  refine ⟨(a : Int) - m, 1 + b, g2, ?_, by omega, by omega, by omega, by rwa [Int.add_assoc] at G2⟩
  have mk : mulOk 2 (m : Int) = true := mulOk_b (a := 7) (b := 7) (by decide) (by rw [Int.natAbs_natCast]; have : 100 ≤ 2 ^ 7 := by decide
                                                                                  exact Nat.le_trans hm this) (by decide)
  have e : eCall m__law_frac [(eBin oSub (eCall m__law_draw [(eVar 0), (eBin oAdd (eBin oMul (eVal (.int 2)) (eVar 1)) (eVal (.int 1)))]) (eVar 1)), (eBin oAdd (eVal (.int 1)) (eCall m__law_draw [(eVar 0), (eVar 2)]))] [oS .st, oS (nI m), oS (nI d)] (some gs) = .ok (sh (dq (mkRat ((a : Int) - m) (1 + b)))) (some g2) := by
    refine call_a (a2 (x := .int ((a : Int) - m)) (y := nI (1 + b)) (g1 := some g1) (bin_ok (x := sh (nI a)) (y := sh (nI m)) (call_a (a2 (x := .st) (y := .int (2 * (m : Int) + 1)) rfl ?_) e1) rfl rfl) (bin_ok (x := sh (.int 1)) (y := sh (nI b)) rfl (call_a (a2 (x := .st) (y := nI d) rfl rfl) e2) ?_)) f
    · exact bin_ok (x := sh (.int (2 * (m : Int)))) (y := sh (.int 1)) (bin_ok (x := sh (.int 2)) (y := sh (nI m)) rfl rfl (mul_k mk)) rfl rfl
    · show some (sh (.int (1 + (b : Int)))) = some (sh (.int ((1 + b : Nat) : Int)))
      rw [Int.natCast_add]
      rfl
  show ends (sRet _ [oS .st, oS (nI m), oS (nI d)] (some gs)) = _
  rw [ret_ok e]
  rfl
/-- over one line -/
theorem line_of {a : Int} {b m d L : Nat} (hL : ∀ b, 1 ≤ b → b ≤ d → b ∣ L) (L0 : L ≠ 0) (h0 : b ≠ 0) (h2 : b ≤ d) (ha : a.natAbs ≤ m) : ∃ z : Int, mkRat a b = mkRat z L ∧ z.natAbs ≤ L * m ∧ (a ≠ 0 → z ≠ 0) := by
  obtain ⟨c, rfl⟩ := hL b (by omega) h2
  have c0 : c ≠ 0 := fun z => by rw [z, Nat.mul_zero] at L0; exact L0 rfl
  refine ⟨a * c, (mk_scale c0 a).symm, ?_, fun h => Int.mul_ne_zero h (by omega)⟩
  rw [Int.natAbs_mul, Int.natAbs_natCast, Nat.mul_comm]
  exact Nat.mul_le_mul (Nat.le_mul_of_pos_left _ (by omega)) ha
theorem nums_loop {ρ0 : Ro} {m d L : Nat} (hL : ∀ b, 1 ≤ b → b ≤ d → b ∣ L) (L0 : L ≠ 0) (d1 : 1 ≤ d) (d100 : d ≤ 100) (hm : m ≤ 100) (h0 : ∀ x, (ρ0.set 6 x)[0]? = some (oS .st)) (h2 : ∀ x, (ρ0.set 6 x)[2]? = some (oS (nI m))) (h3 : ∀ x, (ρ0.set 6 x)[3]? = some (oS (nI d))) : ∀ (k : Nat) (lo n : Int) (gs : GS) (acc : List D), GOk gs n → n + 2 * k ≤ 1800 →
    ∃ (zs : List Int) (gs' : GS), compL (.v 6) none (eCall m__law_number [(eVar 0), (eVar 2), (eVar 3)]) ρ0 (rangeD lo k) acc (some gs) = .ok (acc ++ (rl L zs).map dq) (some gs') ∧ zs.length = k ∧ nrm zs ≤ k * (L * m) ∧ GOk gs' (n + 2 * k)
  | 0, lo, n, gs, acc, G0, _ => by
    refine ⟨[], gs, ?_, rfl, Nat.zero_le _, ?_⟩
    · show R.ok acc _ = R.ok (acc ++ []) _
      rw [List.append_nil]
    · simpa using G0
  | k + 1, lo, n, gs, acc, G0, hn => by
    obtain ⟨a, b, g1, e1, am, b0, b2, G1⟩ := number_is hm (d := d) d1 d100 G0 (by omega)
    obtain ⟨z, ez, zm, _⟩ := line_of hL L0 b0 b2 am
    obtain ⟨zs, g2, e2, l2, n2, G2⟩ := nums_loop hL L0 d1 d100 hm h0 h2 h3 k (lo + 1) (n + 2) g1 (acc ++ [dq (mkRat z L)]) G1 (by omega)
    refine ⟨z :: zs, g2, ?_, by rw [List.length_cons, l2], ?_, by have := G2; rwa [show n + 2 + 2 * (k : Int) = n + 2 * ((k + 1 : Nat) : Int) by omega] at this⟩
    · have cl : eCall m__law_number [(eVar 0), (eVar 2), (eVar 3)] (ρ0.set 6 (some (sh (.int lo)))) (some gs) = .ok (sh (dq (mkRat z L))) (some g1) := by
        rw [← ez]
        exact call_a (a3 (var_sh _ (h0 _)) (var_sh _ (h2 _)) (var_sh _ (h3 _))) e1
      rw [range_s]
      unfold compL
      rw [put_v]
      dsimp only
      rw [cl]
      dsimp only
      rw [e2, List.append_assoc]
      rfl
    · show z.natAbs + nrm zs ≤ (k + 1) * (L * m)
      rw [Nat.succ_mul]
      omega
theorem range_len : ∀ (m : Nat) (lo : Int), (rangeD lo m).length = m
  | 0, _ => rfl
  | m + 1, lo => by rw [range_s, List.length_cons, range_len m]
/-- a drawn step, its denominators to 2 -/
theorem can_lst {n : Nat} {ds : List D} (h : ∀ d ∈ ds, Wr 23 n d) (hl : ds.length ≤ 8) (hn : n ≤ 1900000) : canShow (.lst ds) = true := can_wr (wr_lst h) (by
  have := Nat.mul_le_mul hl hn
  omega)
theorem par_b {i j : Nat} {f h : E} {ρ : Ro} {x y : B} {g g1 g2 : G} (h1 : f ρ g = .ok x g1) (h2 : h ρ g1 = .ok y g2) (t1 : x.t ≠ .bw) (t2 : y.t ≠ .bw) : sPar i j f h ρ g = .nx ((ρ.set i (some x)).set j (some y)) g2 := by
  rw [sPar_0]
  unfold sPar0
  rw [h1]
  obtain ⟨xt, xd⟩ := x
  obtain ⟨yt, yd⟩ := y
  cases xt with
  | bw => exact absurd rfl t1
  | _ =>
    show onR (h ρ g1) ρ _ = _
    rw [h2]
    cases yt with
    | bw => exact absurd rfl t2
    | _ => rfl
theorem like_l {f h : E} {ρ : Ro} {g : G} {d : D} (h1 : f ρ g = .ok (ow d) g) (h2 : h ρ g = .ok (ow d) g) (c : canShow d = true) : eCall m__law_like [f, h] ρ g = .ok (sh (.bl true)) g := call_a (.cons (b := ow d) h1 (tow _) (.cons (b := ow d) h2 (tow _) .nil)) (like_ok c g)
theorem like_e {f h : E} {ρ : Ro} {g : G} {d : D} (h1 : f ρ g = .ok (sh d) g) (h2 : h ρ g = .ok (sh d) g) (c : canShow d = true) : eCall m__law_like [f, h] ρ g = .ok (sh (.bl true)) g := call_a (a2 h1 h2) (like_ok c g)
section gen
variable {α : Type} [Add α] [OfNat α 0]
end gen
theorem rl_times {B q : Nat} (p : Int) (hq : q ≠ 0) (ns : List Int) : rl (B * q) (ns.map fun y => y * p) = (rl B ns).map fun y => y * mkRat p q := by
  unfold rl
  rw [List.map_map, List.map_map]
  refine List.map_congr_left fun y hy => ?_
  show mkRat (y * p) (B * q) = mkRat y B * mkRat p q
  rw [Rat.mkRat_mul_mkRat]
theorem nrm_map (c : Int) : ∀ ns : List Int, nrm (ns.map fun y => y * c) = nrm ns * c.natAbs
  | [] => (Nat.zero_mul _).symm
  | n :: ns => by
    have ih := nrm_map c ns
    show (n * c).natAbs + nrm (ns.map fun y => y * c) = (n.natAbs + nrm ns) * c.natAbs
    rw [ih, Int.natAbs_mul, Nat.add_mul]
theorem nrm_ht (p : List Int) : nrm p = (p.getD 0 0).natAbs + nrm p.tail := by
  cases p <;> rfl
theorem range_e {f : E} {ρ : Ro} {g g1 : G} {k : Nat} (h : f ρ g = .ok (sh (nI k)) g1) (hk : k ≤ 5000) : iRange1 f ρ g = .ok (rangeD 0 k) g1 := by
  have e := small_nat hk
  generalize hs : smallI (k : Int) = sm at e
  simp only [iRange1, h, R.bind, hs, e, if_true, Int.toNat_natCast]
/-! ### sums of two rows -/
/-- a number and what it must be taken times to make one -/
theorem one_draw {l : Int} {r : Nat} {ρ : Ro} {g g1 : G} (h0 : ρ[0]? = some (oS .st)) (e : m__law_draw [.st, .int l] g = .ok (sh (nI r)) g1) : eBin oAdd (eVal (.int 1)) (eCall m__law_draw [(eVar 0), (eVal (.int l))]) ρ g = .ok (sh (nI (1 + r))) g1 := by
  refine bin_ok (x := sh (.int 1)) (y := sh (nI r)) rfl (dr_ok h0 e) ?_
  show some (sh (.int (1 + (r : Int)))) = some (sh (.int ((1 + r : Nat) : Int)))
  rw [Int.natCast_add]
  rfl
theorem ret_b {f : E} {ρ : Ro} {g g1 : G} {b : B} (h : f ρ g = .ok b g1) (hb : b.t ≠ .bw) : sRet f ρ g = .rt b g1 := by
  unfold sRet
  rw [h]
  obtain ⟨t, d⟩ := b
  cases t with
  | bw => exact absurd rfl hb
  | _ => rfl
theorem div2 : ∀ b, 1 ≤ b → b ≤ 2 → b ∣ 2 := fun b h1 h2 => by
  have : b = 1 ∨ b = 2 := by omega
  rcases this with rfl | rfl <;> decide
theorem hd_two {a b : Rat} {s t : Nat} (h1 : Sz s a) (h2 : Sz t b) : Hd (s + t + 1) [a, b] := by
  refine ⟨a.den * b.den, [a.num * (b.den : Int), b.num * (a.den : Int)], Nat.mul_ne_zero a.den_nz b.den_nz, ?_, ?_, ?_⟩
  · have e1 := mk_scale (B := a.den) b.den_nz a.num
    have e2 := mk_scale (B := b.den) a.den_nz b.num
    rw [Rat.mkRat_self] at e1 e2
    rw [Nat.mul_comm] at e2
    show _ = [mkRat _ _, mkRat _ _]
    rw [e1, e2]
  · show (a.num * (b.den : Int)).natAbs + ((b.num * (a.den : Int)).natAbs + 0) ≤ _
    rw [Int.natAbs_mul, Int.natAbs_mul, Int.natAbs_natCast, Int.natAbs_natCast, Nat.pow_succ, Nat.pow_add]
    have m1 := Nat.mul_le_mul h1.up h2.lo
    have m2 := Nat.mul_le_mul h2.up h1.lo
    rw [Nat.mul_comm (2 ^ t)] at m2
    omega
  · refine Nat.le_trans (Nat.mul_le_mul h1.lo h2.lo) ?_
    rw [← Nat.pow_add]
    exact Nat.pow_le_pow_right (by decide) (by omega)
theorem hd_01 (t : Nat) : Hd t [0, 1] := ⟨1, [0, 1], by decide, by
  show _ = [mkRat 0 1, mkRat 1 1]
  decide, Nat.one_le_two_pow, Nat.one_le_two_pow⟩
end K51

set_option Elab.async false
set_option linter.all false
set_option maxRecDepth 100000
set_option maxHeartbeats 1000000
namespace K51
open PySem Sx
theorem of_is {gs : GS} {n : Int} {ds : List D} (h1 : 0 < ds.length) (h2 : ds.length ≤ 1000) (G0 : GOk gs n) (hn : n ≤ 2000) : ∃ (d : D) (gs' : GS), m__law_of [.st, .lst ds] (some gs) = .ok (sh d) (some gs') ∧ d ∈ ds ∧ GOk gs' (n + 1) := by
  obtain ⟨r, g1, e1, b1, G1⟩ := draw_is (l := (ds.length : Int)) G0 hn (by omega) (by omega)
  have hr : r < ds.length := by omega
  have at' : atD ds (r : Int) = some ds[r] := by
    unfold atD
    rw [ixN_k hr]
    exact List.getElem?_eq_getElem hr
  refine ⟨ds[r], g1, ?_, List.getElem_mem hr, G1⟩
  have ix : eBin oIx (eVar 1) (eCall m__law_draw [(eVar 0), (eUn oLen (eVar 1))]) [some (sh .st), some (sh (.lst ds))] (some gs) = .ok (sh ds[r]) (some g1) := by
    refine bin_ok (x := sh (.lst ds)) (y := sh (nI r)) rfl (call_a (a2 (x := .st) (y := .int (ds.length : Int)) rfl rfl) e1) ?_
    show (match atD ds (r : Int) with | some d => some (sh d) | none => none) = _
    rw [at']
  show ends (sRet _ [some (sh .st), some (sh (.lst ds))] (some gs)) = _
  rw [ret_ok ix]
  rfl
/-! ### wholes of rows -/
theorem lam_b {m : Th → Th} {f : E} {ρ : Ro} {b : Sx.B} {g : G} (h : m (f ρ) g = .ok b g) (p : pureD b.d = true) : eLam m f ρ g = .ok b g := by
  unfold eLam
  rw [h]
  show (if pureD b.d then R.ok b g else .no) = _
  rw [if_pos p]
end K51

set_option Elab.async false
set_option linter.all false
set_option maxRecDepth 100000
set_option maxHeartbeats 1000000
namespace K51
open PySem Sx
theorem go {a b : S} {ρ ρ1 : Ro} {g g1 : G} {r : SR} (h : a ρ g = .nx ρ1 g1) (h2 : b ρ1 g1 = r) : sSeq a b ρ g = r := by
  rw [seq_nx h]
  exact h2
theorem go_fz {i : Nat} {b : S} {ρ : Ro} {g : G} {d : D} {r : SR} (h : ρ[i]? = some (oS d)) (h2 : b ρ g = r) : sSeq (sFreeze i) b ρ g = r := by
  refine go (ρ1 := ρ) (g1 := g) ?_ h2
  obtain ⟨hi, e⟩ := List.getElem?_eq_some_iff.mp h
  unfold sFreeze
  rw [h]
  show SR.nx (ρ.set i (oS d)) g = _
  rw [← e, List.set_getElem_self]
theorem unp2 {i j : Nat} {f : E} {ρ : Ro} {x y : D} {g g1 : G} (h : f ρ g = .ok (sh (.tup [x, y])) g1) : sUnp (.two (.v i) (.v j)) f ρ g = .nx ((ρ.set i (oS x)).set j (oS y)) g1 := by
  unfold sUnp
  rw [h]
  show (match (Tg.two (.v i) (.v j)).put (.tup [x, y]) ρ with | some ρ1 => SR.nx ρ1 g1 | none => .no) = _
  have e : (Tg.two (.v i) (.v j)).put (.tup [x, y]) ρ = some ((ρ.set i (oS x)).set j (oS y)) := by
    rw [Tg.put, put_v]
    dsimp only
    rw [put_v]
  rw [e]
theorem mul_asg {i : Nat} {f : E} {ρ : Ro} {d : D} {g : G} (h : f ρ g = .ok (sh d) g) : sAsg i f ρ g = .nx (ρ.set i (some (sh d))) g := asg_ok h (tsh _)
theorem nrm_app : ∀ (a b : List Int), nrm (a ++ b) = nrm a + nrm b
  | [], b => by rw [List.nil_append, nrm, Nat.zero_add]
  | x :: a, b => by
    rw [List.cons_append, nrm, nrm, nrm_app a b, Nat.add_assoc]
theorem rl_app (B : Nat) (a b : List Int) : rl B (a ++ b) = rl B a ++ rl B b := List.map_append
theorem last_app {α : Type} [OfNat α 0] (a : List α) (b : List α) (h : 1 ≤ b.length) : lastQ (a ++ b) = lastQ b := by
  unfold lastQ
  rw [List.length_append, List.getD_eq_getElem?_getD, List.getD_eq_getElem?_getD, List.getElem?_append_right (by omega), show a.length + b.length - 1 - a.length = b.length - 1 by omega]
theorem step_is {gs : GS} {n : Int} {k m d L : Nat} (hL : ∀ b, 1 ≤ b → b ≤ d → b ∣ L) (L0 : L ≠ 0) (d1 : 1 ≤ d) (d100 : d ≤ 100) (hm : m ≤ 100) (m1 : 1 ≤ m) (k6 : k ≤ 60) (G0 : GOk gs n) (hn : n ≤ 1500) : ∃ (zs : List Int) (gs' : GS), m__law_step [.st, nI k, nI m, nI d] (some gs) = .ok (sh (P (rl L zs))) (some gs') ∧ zs.length = k + 1 ∧ nrm zs ≤ (k + 1) * (L * m) ∧ lastQ (rl L zs) ≠ 0 ∧ GOk gs' (n + 2 * k + 3) := by
  obtain ⟨zs, g1, e1, l1, n1, G1⟩ := nums_loop hL L0 d1 d100 hm (ρ0 := [oS .st, sI (k : Int), oS (nI m), oS (nI d), none, none, none]) (fun x => rfl) (fun x => rfl) (fun x => rfl) k 0 n gs [] G0 (by omega)
  obtain ⟨a, g2, e2, b2, G2⟩ := draw_is (l := (m : Int)) G1 (by omega) (by omega) (by omega)
  obtain ⟨b, g3, e3, b3, G3⟩ := draw_is (l := 2) G2 (by omega) (by decide) (by decide)
  obtain ⟨c, g4, e4, b4, G4⟩ := draw_is (l := (d : Int)) G3 (by omega) (by omega) (by omega)
  have s : 1 - 2 * (b : Int) = 1 ∨ 1 - 2 * (b : Int) = -1 := by omega
  have ha : ((1 + (a : Int)) * (1 - 2 * (b : Int))).natAbs ≤ m ∧ (1 + (a : Int)) * (1 - 2 * (b : Int)) ≠ 0 := by
    rcases s with s | s
    · rw [s]; omega
    · rw [s]; omega
  have k7 : 1000 ≤ 2 ^ 10 := by decide
  have m1 : mulOk (1 + (a : Int)) (1 - 2 * (b : Int)) = true := mulOk_b (a := 10) (b := 10) (by omega) (by omega) (by decide)
  have m2 : mulOk 2 (b : Int) = true := mulOk_b (a := 10) (b := 10) (by omega) (by omega) (by decide)
  have p7 : 2 ^ 7 ≤ 2 ^ 8000 := Nat.pow_le_pow_right (by decide) (by decide)
  have f := frac_rat (n := (1 + (a : Int)) * (1 - 2 * (b : Int))) (d := 1 + c) (by omega) (by
    have : 100 ≤ 2 ^ 7 := by decide
    omega) (some g4)
  obtain ⟨z, ez, zm, z0⟩ := line_of hL L0 (b := 1 + c) (by omega) (by omega) ha.1
  rw [ez] at f
  have zz := z0 ha.2
  refine ⟨zs ++ [z], g4, ?_, by rw [List.length_append, l1]; rfl, ?_, ?_, by have := G4; rwa [show n + 2 * (k : Int) + 1 + 1 + 1 = n + 2 * k + 3 by omega] at this⟩
  · have cm : eComp [6] (iRange1 (eVar 1)) (.v 6) none (eCall m__law_number [(eVar 0), (eVar 2), (eVar 3)]) [oS .st, sI (k : Int), oS (nI m), oS (nI d), none, none, none] (some gs) = .ok (ow (.lst ((rl L zs).map dq))) (some g1) := by
      rw [eComp_0]
      unfold eComp0
      rw [range_k 1 rfl (by omega : k ≤ 5000)]
      show (if (rangeD 0 k).length ≤ LIM then (compL (.v 6) none _ [oS .st, sI (k : Int), oS (nI m), oS (nI d), none, none, none] (rangeD 0 k) [] (some gs)).bind fun out g2 => R.ok (ow (.lst out)) g2 else R.no) = _
      rw [if_pos (by rw [range_len]; unfold LIM; omega), e1]
      rfl
    have s1 : sAsg 4 (eComp [6] (iRange1 (eVar 1)) (.v 6) none (eCall m__law_number [(eVar 0), (eVar 2), (eVar 3)])) [oS .st, sI (k : Int), oS (nI m), oS (nI d), none, none, none] (some gs) = .nx [oS .st, sI (k : Int), oS (nI m), oS (nI d), some (ow (.lst ((rl L zs).map dq))), none, none] (some g1) := asg_ok cm (tow _)
    have s2 : sAsg 5 (eCall m__law_frac [(eBin oMul (eBin oAdd (eVal (.int 1)) (eCall m__law_draw [(eVar 0), (eVar 2)])) (eBin oSub (eVal (.int 1)) (eBin oMul (eVal (.int 2)) (eCall m__law_draw [(eVar 0), (eVal (.int 2))])))), (eBin oAdd (eVal (.int 1)) (eCall m__law_draw [(eVar 0), (eVar 3)]))]) [oS .st, sI (k : Int), oS (nI m), oS (nI d), some (ow (.lst ((rl L zs).map dq))), none, none] (some g1) = .nx [oS .st, sI (k : Int), oS (nI m), oS (nI d), some (ow (.lst ((rl L zs).map dq))), oS (dq (mkRat z L)), none] (some g4) := by
      refine asg_ok (call_a (a2 (x := .int ((1 + (a : Int)) * (1 - 2 * (b : Int)))) (y := nI (1 + c)) (g1 := some g3) ?_ ?_) f) (tsh _)
      · exact bin_ok (x := sh (.int (1 + (a : Int)))) (y := sh (.int (1 - 2 * (b : Int)))) (g1 := some g2) (bin_ok (x := sh (.int 1)) (y := sh (nI a)) rfl (call_a (a2 (x := .st) (y := nI m) rfl rfl) e2) rfl) (bin_ok (x := sh (.int 1)) (y := sh (.int (2 * (b : Int)))) rfl (bin_ok (x := sh (.int 2)) (y := sh (nI b)) rfl (dr_ok rfl e3) (mul_k m2)) rfl) (mul_k m1)
      · refine bin_ok (x := sh (.int 1)) (y := sh (nI c)) rfl (call_a (a2 (x := .st) (y := nI d) rfl rfl) e4) ?_
        show some (sh (.int (1 + (c : Int)))) = some (sh (.int ((1 + c : Nat) : Int)))
        rw [Int.natCast_add]
        rfl
    have f5 : sFreeze 5 [oS .st, sI (k : Int), oS (nI m), oS (nI d), some (ow (.lst ((rl L zs).map dq))), oS (dq (mkRat z L)), none] (some g4) = .nx [oS .st, sI (k : Int), oS (nI m), oS (nI d), some (ow (.lst ((rl L zs).map dq))), oS (dq (mkRat z L)), none] (some g4) := rfl
    have r : eUn oTuple (eBin oAdd (eVar 4) (eLst [(eVar 5)])) [oS .st, sI (k : Int), oS (nI m), oS (nI d), some (ow (.lst ((rl L zs).map dq))), oS (dq (mkRat z L)), none] (some g4) = .ok (sh (P (rl L (zs ++ [z])))) (some g4) := by
      refine un_ok (x := ow (.lst ((rl L zs).map dq ++ [dq (mkRat z L)]))) (bin_ok (x := bw (.lst ((rl L zs).map dq))) (y := ow (.lst [dq (mkRat z L)])) rfl rfl ?_) ?_
      · show (if ((rl L zs).map dq).length + 1 ≤ LIM then some (ow (.lst ((rl L zs).map dq ++ [dq (mkRat z L)]))) else none) = _
        rw [if_pos (by rw [List.length_map, rl_len, l1]; unfold LIM; omega)]
      · rw [rl_app, P, List.map_append]
        rfl
    have q' : ∀ a b c d : D, m__law_step [a, b, c, d] (some gs) = ends (b__law_step [oS a, oS b, oS c, oS d, none, none, none] (some gs)) := fun a b c d => rfl
    rw [q']
    unfold b__law_step
    rw [seq_nx s1, seq_nx s2, seq_nx f5, ret_ok r]
    rfl
  · rw [nrm_app, Nat.succ_mul]
    show nrm zs + (z.natAbs + 0) ≤ k * (L * m) + L * m
    omega
  · rw [rl_app, last_app _ _ (by rw [rl_len]; exact Nat.le_refl 1)]
    show mkRat z L ≠ 0
    exact fun h => zz ((Rat.mkRat_eq_zero L0).mp h)
end K51

set_option Elab.async false
set_option linter.all false
set_option maxRecDepth 100000
set_option maxHeartbeats 1000000
namespace K51
open PySem Sx
abbrev E1 (d : D) : Ex := ⟨2, [("value", d)]⟩
theorem exp_er {f : E} {ρ : Ro} {g g1 : G} {x : Ex} (h : f ρ g = .er x g1) : sExpr f ρ g = .er x ρ g1 := by
  unfold sExpr
  rw [h]
  rfl
def odds : List D := [.non, .tup [], .tup [.tup [.int 1, .int 1]], .tup [.tup [.int 1, .int 1], .tup [.int 0, .int 1]], .lst [.tup [.int 0, .int 1], .tup [.int 1, .int 1]]]
theorem odd_er {d : D} (h : d ∈ odds) (g : G) : m_need_step [d] g = .er (E1 d) g := by
  simp only [odds, List.mem_cons, List.not_mem_nil, or_false] at h
  rcases h with rfl | rfl | rfl | rfl | rfl <;> kernel_rfl
theorem refusal_er {th : Th} {d : D} {g : G} (hd : d ∈ odds) (h : th g = .er (E1 d) g) : fnTh 4 b__law_refusal th g = .ok (sh (.tup [.str "step", d])) g := by
  show ends (b__law_refusal th [oS (.fn 0), none, none, none] g) = _
  have t : sAsg 3 (eTh th) [oS (.fn 0), none, oS .non, oS .non] g = .er (E1 d) [oS (.fn 0), none, oS .non, oS .non] g := by
    have e : eTh th [oS (.fn 0), none, oS .non, oS .non] g = .er (E1 d) g := h
    unfold sAsg
    rw [e]
    rfl
  unfold b__law_refusal
  refine congrArg ends (a₂ := .rt (sh (.tup [.str "step", d])) g) (go (ρ1 := [oS (.fn 0), none, oS .non, oS .non]) (g1 := g) rfl ?_)
  refine go (ρ1 := [oS (.fn 0), none, oS (.tup [.str "step", d]), oS .non]) (g1 := g) ?_ ?_
  · unfold sTry
    rw [t]
    simp only [odds, List.mem_cons, List.not_mem_nil, or_false] at hd
    rcases hd with rfl | rfl | rfl | rfl | rfl <;> kernel_rfl
  · rfl
section
variable {x y : D} {g : G} {e : Ex}
theorem cw_1 (h : m_need_step [x] g = .er e g) : m_common_whole [x, y] g = .er e g := by
  show ends (b_common_whole [oS x, oS y, none, none, none] g) = _
  unfold b_common_whole
  rw [seq_er (exp_er (call_a (a1 (x := x) rfl) h))]
  rfl
theorem cw_2 (h1 : m_need_step [x] g = .ok (sh x) g) (h : m_need_step [y] g = .er e g) : m_common_whole [x, y] g = .er e g := by
  show ends (b_common_whole [oS x, oS y, none, none, none] g) = _
  unfold b_common_whole
  rw [seq_nx (exp_ok (call_a (a1 (x := x) rfl) h1)), seq_er (exp_er (call_a (a1 (x := y) rfl) h))]
  rfl
theorem aj_1 (h : m_need_step [x] g = .er e g) : m_are_joined [x, y] g = .er e g := by
  show ends (b_are_joined [oS x, oS y] g) = _
  unfold b_are_joined
  rw [seq_er (exp_er (call_a (a1 (x := x) rfl) h))]
  rfl
theorem aj_2 (h1 : m_need_step [x] g = .ok (sh x) g) (h : m_need_step [y] g = .er e g) : m_are_joined [x, y] g = .er e g := by
  show ends (b_are_joined [oS x, oS y] g) = _
  unfold b_are_joined
  rw [seq_nx (exp_ok (call_a (a1 (x := x) rfl) h1)), seq_er (exp_er (call_a (a1 (x := y) rfl) h))]
  rfl
theorem bp_1 (h : m_need_step [x] g = .er e g) : m_bar_places [x, y] g = .er e g := by
  show ends (b_bar_places [oS x, oS y, none, none, none, none] g) = _
  unfold b_bar_places
  rw [seq_er (exp_er (call_a (a1 (x := x) rfl) h))]
  rfl
theorem bp_2 (h1 : m_need_step [x] g = .ok (sh x) g) (h : m_need_step [y] g = .er e g) : m_bar_places [x, y] g = .er e g := by
  show ends (b_bar_places [oS x, oS y, none, none, none, none] g) = _
  unfold b_bar_places
  rw [seq_nx (exp_ok (call_a (a1 (x := x) rfl) h1)), seq_er (exp_er (call_a (a1 (x := y) rfl) h))]
  rfl
theorem ib_1 (h : m_need_step [x] g = .er e g) : m_is_bar [x, y, .non] g = .er e g := by
  show ends (b_is_bar [oS x, oS y, oS .non, none, none, none, none, none, none, none, none, none, none] g) = _
  unfold b_is_bar
  rw [seq_er (exp_er (call_a (a1 (x := x) rfl) h))]
  rfl
theorem ib_2 (h1 : m_need_step [x] g = .ok (sh x) g) (h : m_need_step [y] g = .er e g) : m_is_bar [x, y, .non] g = .er e g := by
  show ends (b_is_bar [oS x, oS y, oS .non, none, none, none, none, none, none, none, none, none, none] g) = _
  unfold b_is_bar
  rw [seq_nx (exp_ok (call_a (a1 (x := x) rfl) h1)), seq_er (exp_er (call_a (a1 (x := y) rfl) h))]
  rfl
end
/-- a pair of which the told value is refused -/
structure Bad (x y d : D) (g : G) : Prop where
  hd : d ∈ odds
  cw : m_common_whole [x, y] g = .er (E1 d) g
  aj : m_are_joined [x, y] g = .er (E1 d) g
  bp : m_bar_places [x, y] g = .er (E1 d) g
  ib : m_is_bar [x, y, .non] g = .er (E1 d) g
theorem bad_1 {x y : D} (h : x ∈ odds) (g : G) : Bad x y x g := ⟨h, cw_1 (odd_er h g), aj_1 (odd_er h g), bp_1 (odd_er h g), ib_1 (odd_er h g)⟩
theorem bad_2 {x y : D} {g : G} (h1 : m_need_step [x] g = .ok (sh x) g) (h : y ∈ odds) : Bad x y y g := ⟨h, cw_2 h1 (odd_er h g), aj_2 h1 (odd_er h g), bp_2 h1 (odd_er h g), ib_2 h1 (odd_er h g)⟩
def bIn : S := (sIf (eNot (eCall m__law_like [(eLam (fnTh 4 b__law_refusal) (eCallV tabV 6 [(eVar 3), (eVar 4)])), (eTup [(eVal (.str "step")), (eVar 5)])]))
 (sRet (eVal (.bl false)))
 sPass)
def bOut : S := (sSeq (sFor (iSeq (eTup [(eVal (.fn 1)), (eVal (.fn 2)), (eVal (.fn 3))])) (.v 6) bIn)
 (sIf (eNot (eCall m__law_like [(eLam (fnTh 4 b__law_refusal) (eCall m_is_bar [(eVar 3), (eVar 4), (eVal .non)])), (eTup [(eVal (.str "step")), (eVar 5)])]))
 (sRet (eVal (.bl false)))
 sPass))
theorem can_odd {d : D} (hd : d ∈ odds) : canShow (.tup [.str "step", d]) = true ∧ pureD (.tup [.str "step", d]) = true := by
  simp only [odds, List.mem_cons, List.not_mem_nil, or_false] at hd
  rcases hd with rfl | rfl | rfl | rfl | rfl <;> exact ⟨by decide +kernel, by decide +kernel⟩
theorem in_ok {x y d : D} {g : G} {s o q : O} {n : Nat} {m : Fn} (hm : tabV n = some m) (hd : d ∈ odds) (h : m [x, y] g = .er (E1 d) g) : bIn [s, o, q, oS x, oS y, oS d, oS (.fn n)] g = .nx [s, o, q, oS x, oS y, oS d, oS (.fn n)] g := by
  have e1 : eLam (fnTh 4 b__law_refusal) (eCallV tabV 6 [(eVar 3), (eVar 4)]) [s, o, q, oS x, oS y, oS d, oS (.fn n)] g = .ok (sh (.tup [.str "step", d])) g := by
    refine lam_b (refusal_er hd ?_) (can_odd hd).2
    show (match tabV n with | some m => eCall m [(eVar 3), (eVar 4)] [s, o, q, oS x, oS y, oS d, oS (.fn n)] g | none => .no) = _
    rw [hm]
    exact call_a (a2 (x := x) (y := y) rfl rfl) h
  unfold bIn
  rw [if_f (not_ok (b := true) (like_e e1 (tup_a (a2 (x := .str "step") (y := d) rfl rfl)) (can_odd hd).1))]
  rfl
theorem out_ok {x y d : D} {g : G} {s o q t : O} (h : Bad x y d g) : bOut [s, o, q, oS x, oS y, oS d, t] g = .nx [s, o, q, oS x, oS y, oS d, oS (.fn 3)] g := by
  unfold bOut
  have l : sFor (iSeq (eTup [(eVal (.fn 1)), (eVal (.fn 2)), (eVal (.fn 3))])) (.v 6) bIn [s, o, q, oS x, oS y, oS d, t] g = .nx [s, o, q, oS x, oS y, oS d, oS (.fn 3)] g := by
    refine sFor_0 (ds := [.fn 1, .fn 2, .fn 3]) (g1 := g) rfl ?_
    rw [for_1 (ρ1 := [s, o, q, oS x, oS y, oS d, oS (.fn 1)]) (in_ok rfl h.hd h.cw), for_1 (ρ1 := [s, o, q, oS x, oS y, oS d, oS (.fn 2)]) (in_ok rfl h.hd h.aj), for_1 (ρ1 := [s, o, q, oS x, oS y, oS d, oS (.fn 3)]) (in_ok rfl h.hd h.bp)]
    rfl
  rw [seq_nx l]
  have e1 : eLam (fnTh 4 b__law_refusal) (eCall m_is_bar [(eVar 3), (eVar 4), (eVal .non)]) [s, o, q, oS x, oS y, oS d, oS (.fn 3)] g = .ok (sh (.tup [.str "step", d])) g :=
    lam_b (refusal_er h.hd (call_a (a3 (x := x) (y := y) (z := .non) rfl rfl rfl) h.ib)) (can_odd h.hd).2
  rw [if_f (not_ok (b := true) (like_e e1 (tup_a (a2 (x := .str "step") (y := d) rfl rfl)) (can_odd h.hd).1))]
  rfl
end K51

set_option Elab.async false
set_option linter.all false
set_option maxRecDepth 100000
set_option maxHeartbeats 1000000
namespace K51
open PySem Sx
theorem t_1_1 (g : G) : pwGo 1 1 g = .ok (sh (.bl true)) g := by kernel_rfl
theorem t_1_2 (g : G) : pwGo 1 2 g = .ok (sh (.bl true)) g := by kernel_rfl
theorem t_1_3 (g : G) : pwGo 1 3 g = .ok (sh (.bl true)) g := by kernel_rfl
theorem t_1_4 (g : G) : pwGo 1 4 g = .ok (sh (.bl true)) g := by kernel_rfl
theorem t_1_5 (g : G) : pwGo 1 5 g = .ok (sh (.bl true)) g := by kernel_rfl
theorem t_1_6 (g : G) : pwGo 1 6 g = .ok (sh (.bl true)) g := by kernel_rfl
theorem t_1_7 (g : G) : pwGo 1 7 g = .ok (sh (.bl true)) g := by kernel_rfl
theorem t_1_8 (g : G) : pwGo 1 8 g = .ok (sh (.bl true)) g := by kernel_rfl
theorem t_1_9 (g : G) : pwGo 1 9 g = .ok (sh (.bl true)) g := by kernel_rfl
theorem t_1_10 (g : G) : pwGo 1 10 g = .ok (sh (.bl true)) g := by kernel_rfl
theorem t_1_11 (g : G) : pwGo 1 11 g = .ok (sh (.bl true)) g := by kernel_rfl
theorem t_1_12 (g : G) : pwGo 1 12 g = .ok (sh (.bl true)) g := by kernel_rfl
theorem t_1_13 (g : G) : pwGo 1 13 g = .ok (sh (.bl true)) g := by kernel_rfl
theorem t_1_14 (g : G) : pwGo 1 14 g = .ok (sh (.bl true)) g := by kernel_rfl
theorem t_1_15 (g : G) : pwGo 1 15 g = .ok (sh (.bl true)) g := by kernel_rfl
theorem t_1_16 (g : G) : pwGo 1 16 g = .ok (sh (.bl true)) g := by kernel_rfl
theorem pw_1 (g : G) : ∀ b : Nat, b < 16 → pwGo 1 ((1 + b : Nat) : Int) g = .ok (sh (.bl true)) g
  | 0, _ => t_1_1 g
  | 1, _ => t_1_2 g
  | 2, _ => t_1_3 g
  | 3, _ => t_1_4 g
  | 4, _ => t_1_5 g
  | 5, _ => t_1_6 g
  | 6, _ => t_1_7 g
  | 7, _ => t_1_8 g
  | 8, _ => t_1_9 g
  | 9, _ => t_1_10 g
  | 10, _ => t_1_11 g
  | 11, _ => t_1_12 g
  | 12, _ => t_1_13 g
  | 13, _ => t_1_14 g
  | 14, _ => t_1_15 g
  | 15, _ => t_1_16 g
  | n + 16, h => absurd h (by omega)
end K51

set_option Elab.async false
set_option linter.all false
set_option maxRecDepth 100000
set_option maxHeartbeats 1000000
namespace K51
open PySem Sx
theorem t_2_1 (g : G) : pwGo 2 1 g = .ok (sh (.bl true)) g := by kernel_rfl
theorem t_2_2 (g : G) : pwGo 2 2 g = .ok (sh (.bl true)) g := by kernel_rfl
theorem t_2_3 (g : G) : pwGo 2 3 g = .ok (sh (.bl true)) g := by kernel_rfl
theorem t_2_4 (g : G) : pwGo 2 4 g = .ok (sh (.bl true)) g := by kernel_rfl
theorem t_2_5 (g : G) : pwGo 2 5 g = .ok (sh (.bl true)) g := by kernel_rfl
theorem t_2_6 (g : G) : pwGo 2 6 g = .ok (sh (.bl true)) g := by kernel_rfl
theorem t_2_7 (g : G) : pwGo 2 7 g = .ok (sh (.bl true)) g := by kernel_rfl
theorem t_2_8 (g : G) : pwGo 2 8 g = .ok (sh (.bl true)) g := by kernel_rfl
theorem t_2_9 (g : G) : pwGo 2 9 g = .ok (sh (.bl true)) g := by kernel_rfl
theorem t_2_10 (g : G) : pwGo 2 10 g = .ok (sh (.bl true)) g := by kernel_rfl
theorem t_2_11 (g : G) : pwGo 2 11 g = .ok (sh (.bl true)) g := by kernel_rfl
theorem t_2_12 (g : G) : pwGo 2 12 g = .ok (sh (.bl true)) g := by kernel_rfl
theorem t_2_13 (g : G) : pwGo 2 13 g = .ok (sh (.bl true)) g := by kernel_rfl
theorem t_2_14 (g : G) : pwGo 2 14 g = .ok (sh (.bl true)) g := by kernel_rfl
theorem t_2_15 (g : G) : pwGo 2 15 g = .ok (sh (.bl true)) g := by kernel_rfl
theorem t_2_16 (g : G) : pwGo 2 16 g = .ok (sh (.bl true)) g := by kernel_rfl
theorem pw_2 (g : G) : ∀ b : Nat, b < 16 → pwGo 2 ((1 + b : Nat) : Int) g = .ok (sh (.bl true)) g
  | 0, _ => t_2_1 g
  | 1, _ => t_2_2 g
  | 2, _ => t_2_3 g
  | 3, _ => t_2_4 g
  | 4, _ => t_2_5 g
  | 5, _ => t_2_6 g
  | 6, _ => t_2_7 g
  | 7, _ => t_2_8 g
  | 8, _ => t_2_9 g
  | 9, _ => t_2_10 g
  | 10, _ => t_2_11 g
  | 11, _ => t_2_12 g
  | 12, _ => t_2_13 g
  | 13, _ => t_2_14 g
  | 14, _ => t_2_15 g
  | 15, _ => t_2_16 g
  | n + 16, h => absurd h (by omega)
end K51

set_option Elab.async false
set_option linter.all false
set_option maxRecDepth 100000
set_option maxHeartbeats 1000000
namespace K51
open PySem Sx
theorem t_3_1 (g : G) : pwGo 3 1 g = .ok (sh (.bl true)) g := by kernel_rfl
theorem t_3_2 (g : G) : pwGo 3 2 g = .ok (sh (.bl true)) g := by kernel_rfl
theorem t_3_3 (g : G) : pwGo 3 3 g = .ok (sh (.bl true)) g := by kernel_rfl
theorem t_3_4 (g : G) : pwGo 3 4 g = .ok (sh (.bl true)) g := by kernel_rfl
theorem t_3_5 (g : G) : pwGo 3 5 g = .ok (sh (.bl true)) g := by kernel_rfl
theorem t_3_6 (g : G) : pwGo 3 6 g = .ok (sh (.bl true)) g := by kernel_rfl
theorem t_3_7 (g : G) : pwGo 3 7 g = .ok (sh (.bl true)) g := by kernel_rfl
theorem t_3_8 (g : G) : pwGo 3 8 g = .ok (sh (.bl true)) g := by kernel_rfl
theorem t_3_9 (g : G) : pwGo 3 9 g = .ok (sh (.bl true)) g := by kernel_rfl
theorem t_3_10 (g : G) : pwGo 3 10 g = .ok (sh (.bl true)) g := by kernel_rfl
theorem t_3_11 (g : G) : pwGo 3 11 g = .ok (sh (.bl true)) g := by kernel_rfl
theorem t_3_12 (g : G) : pwGo 3 12 g = .ok (sh (.bl true)) g := by kernel_rfl
theorem t_3_13 (g : G) : pwGo 3 13 g = .ok (sh (.bl true)) g := by kernel_rfl
theorem t_3_14 (g : G) : pwGo 3 14 g = .ok (sh (.bl true)) g := by kernel_rfl
theorem t_3_15 (g : G) : pwGo 3 15 g = .ok (sh (.bl true)) g := by kernel_rfl
theorem t_3_16 (g : G) : pwGo 3 16 g = .ok (sh (.bl true)) g := by kernel_rfl
theorem pw_3 (g : G) : ∀ b : Nat, b < 16 → pwGo 3 ((1 + b : Nat) : Int) g = .ok (sh (.bl true)) g
  | 0, _ => t_3_1 g
  | 1, _ => t_3_2 g
  | 2, _ => t_3_3 g
  | 3, _ => t_3_4 g
  | 4, _ => t_3_5 g
  | 5, _ => t_3_6 g
  | 6, _ => t_3_7 g
  | 7, _ => t_3_8 g
  | 8, _ => t_3_9 g
  | 9, _ => t_3_10 g
  | 10, _ => t_3_11 g
  | 11, _ => t_3_12 g
  | 12, _ => t_3_13 g
  | 13, _ => t_3_14 g
  | 14, _ => t_3_15 g
  | 15, _ => t_3_16 g
  | n + 16, h => absurd h (by omega)
end K51

set_option Elab.async false
set_option linter.all false
set_option maxRecDepth 100000
set_option maxHeartbeats 1000000
namespace K51
open PySem Sx
theorem t_4_1 (g : G) : pwGo 4 1 g = .ok (sh (.bl true)) g := by kernel_rfl
theorem t_4_2 (g : G) : pwGo 4 2 g = .ok (sh (.bl true)) g := by kernel_rfl
theorem t_4_3 (g : G) : pwGo 4 3 g = .ok (sh (.bl true)) g := by kernel_rfl
theorem t_4_4 (g : G) : pwGo 4 4 g = .ok (sh (.bl true)) g := by kernel_rfl
theorem t_4_5 (g : G) : pwGo 4 5 g = .ok (sh (.bl true)) g := by kernel_rfl
theorem t_4_6 (g : G) : pwGo 4 6 g = .ok (sh (.bl true)) g := by kernel_rfl
theorem t_4_7 (g : G) : pwGo 4 7 g = .ok (sh (.bl true)) g := by kernel_rfl
theorem t_4_8 (g : G) : pwGo 4 8 g = .ok (sh (.bl true)) g := by kernel_rfl
theorem t_4_9 (g : G) : pwGo 4 9 g = .ok (sh (.bl true)) g := by kernel_rfl
theorem t_4_10 (g : G) : pwGo 4 10 g = .ok (sh (.bl true)) g := by kernel_rfl
theorem t_4_11 (g : G) : pwGo 4 11 g = .ok (sh (.bl true)) g := by kernel_rfl
theorem t_4_12 (g : G) : pwGo 4 12 g = .ok (sh (.bl true)) g := by kernel_rfl
theorem t_4_13 (g : G) : pwGo 4 13 g = .ok (sh (.bl true)) g := by kernel_rfl
theorem t_4_14 (g : G) : pwGo 4 14 g = .ok (sh (.bl true)) g := by kernel_rfl
theorem t_4_15 (g : G) : pwGo 4 15 g = .ok (sh (.bl true)) g := by kernel_rfl
theorem t_4_16 (g : G) : pwGo 4 16 g = .ok (sh (.bl true)) g := by kernel_rfl
theorem pw_4 (g : G) : ∀ b : Nat, b < 16 → pwGo 4 ((1 + b : Nat) : Int) g = .ok (sh (.bl true)) g
  | 0, _ => t_4_1 g
  | 1, _ => t_4_2 g
  | 2, _ => t_4_3 g
  | 3, _ => t_4_4 g
  | 4, _ => t_4_5 g
  | 5, _ => t_4_6 g
  | 6, _ => t_4_7 g
  | 7, _ => t_4_8 g
  | 8, _ => t_4_9 g
  | 9, _ => t_4_10 g
  | 10, _ => t_4_11 g
  | 11, _ => t_4_12 g
  | 12, _ => t_4_13 g
  | 13, _ => t_4_14 g
  | 14, _ => t_4_15 g
  | 15, _ => t_4_16 g
  | n + 16, h => absurd h (by omega)
end K51

set_option Elab.async false
set_option linter.all false
set_option maxRecDepth 100000
set_option maxHeartbeats 1000000
namespace K51
open PySem Sx
theorem t_5_1 (g : G) : pwGo 5 1 g = .ok (sh (.bl true)) g := by kernel_rfl
theorem t_5_2 (g : G) : pwGo 5 2 g = .ok (sh (.bl true)) g := by kernel_rfl
theorem t_5_3 (g : G) : pwGo 5 3 g = .ok (sh (.bl true)) g := by kernel_rfl
theorem t_5_4 (g : G) : pwGo 5 4 g = .ok (sh (.bl true)) g := by kernel_rfl
theorem t_5_5 (g : G) : pwGo 5 5 g = .ok (sh (.bl true)) g := by kernel_rfl
theorem t_5_6 (g : G) : pwGo 5 6 g = .ok (sh (.bl true)) g := by kernel_rfl
theorem t_5_7 (g : G) : pwGo 5 7 g = .ok (sh (.bl true)) g := by kernel_rfl
theorem t_5_8 (g : G) : pwGo 5 8 g = .ok (sh (.bl true)) g := by kernel_rfl
theorem t_5_9 (g : G) : pwGo 5 9 g = .ok (sh (.bl true)) g := by kernel_rfl
theorem t_5_10 (g : G) : pwGo 5 10 g = .ok (sh (.bl true)) g := by kernel_rfl
theorem t_5_11 (g : G) : pwGo 5 11 g = .ok (sh (.bl true)) g := by kernel_rfl
theorem t_5_12 (g : G) : pwGo 5 12 g = .ok (sh (.bl true)) g := by kernel_rfl
theorem t_5_13 (g : G) : pwGo 5 13 g = .ok (sh (.bl true)) g := by kernel_rfl
theorem t_5_14 (g : G) : pwGo 5 14 g = .ok (sh (.bl true)) g := by kernel_rfl
theorem t_5_15 (g : G) : pwGo 5 15 g = .ok (sh (.bl true)) g := by kernel_rfl
theorem t_5_16 (g : G) : pwGo 5 16 g = .ok (sh (.bl true)) g := by kernel_rfl
theorem pw_5 (g : G) : ∀ b : Nat, b < 16 → pwGo 5 ((1 + b : Nat) : Int) g = .ok (sh (.bl true)) g
  | 0, _ => t_5_1 g
  | 1, _ => t_5_2 g
  | 2, _ => t_5_3 g
  | 3, _ => t_5_4 g
  | 4, _ => t_5_5 g
  | 5, _ => t_5_6 g
  | 6, _ => t_5_7 g
  | 7, _ => t_5_8 g
  | 8, _ => t_5_9 g
  | 9, _ => t_5_10 g
  | 10, _ => t_5_11 g
  | 11, _ => t_5_12 g
  | 12, _ => t_5_13 g
  | 13, _ => t_5_14 g
  | 14, _ => t_5_15 g
  | 15, _ => t_5_16 g
  | n + 16, h => absurd h (by omega)
end K51

set_option Elab.async false
set_option linter.all false
set_option maxRecDepth 100000
set_option maxHeartbeats 1000000
namespace K51
open PySem Sx
theorem t_6_1 (g : G) : pwGo 6 1 g = .ok (sh (.bl true)) g := by kernel_rfl
theorem t_6_2 (g : G) : pwGo 6 2 g = .ok (sh (.bl true)) g := by kernel_rfl
theorem t_6_3 (g : G) : pwGo 6 3 g = .ok (sh (.bl true)) g := by kernel_rfl
theorem t_6_4 (g : G) : pwGo 6 4 g = .ok (sh (.bl true)) g := by kernel_rfl
theorem t_6_5 (g : G) : pwGo 6 5 g = .ok (sh (.bl true)) g := by kernel_rfl
theorem t_6_6 (g : G) : pwGo 6 6 g = .ok (sh (.bl true)) g := by kernel_rfl
theorem t_6_7 (g : G) : pwGo 6 7 g = .ok (sh (.bl true)) g := by kernel_rfl
theorem t_6_8 (g : G) : pwGo 6 8 g = .ok (sh (.bl true)) g := by kernel_rfl
theorem t_6_9 (g : G) : pwGo 6 9 g = .ok (sh (.bl true)) g := by kernel_rfl
theorem t_6_10 (g : G) : pwGo 6 10 g = .ok (sh (.bl true)) g := by kernel_rfl
theorem t_6_11 (g : G) : pwGo 6 11 g = .ok (sh (.bl true)) g := by kernel_rfl
theorem t_6_12 (g : G) : pwGo 6 12 g = .ok (sh (.bl true)) g := by kernel_rfl
theorem t_6_13 (g : G) : pwGo 6 13 g = .ok (sh (.bl true)) g := by kernel_rfl
theorem t_6_14 (g : G) : pwGo 6 14 g = .ok (sh (.bl true)) g := by kernel_rfl
theorem t_6_15 (g : G) : pwGo 6 15 g = .ok (sh (.bl true)) g := by kernel_rfl
theorem t_6_16 (g : G) : pwGo 6 16 g = .ok (sh (.bl true)) g := by kernel_rfl
theorem pw_6 (g : G) : ∀ b : Nat, b < 16 → pwGo 6 ((1 + b : Nat) : Int) g = .ok (sh (.bl true)) g
  | 0, _ => t_6_1 g
  | 1, _ => t_6_2 g
  | 2, _ => t_6_3 g
  | 3, _ => t_6_4 g
  | 4, _ => t_6_5 g
  | 5, _ => t_6_6 g
  | 6, _ => t_6_7 g
  | 7, _ => t_6_8 g
  | 8, _ => t_6_9 g
  | 9, _ => t_6_10 g
  | 10, _ => t_6_11 g
  | 11, _ => t_6_12 g
  | 12, _ => t_6_13 g
  | 13, _ => t_6_14 g
  | 14, _ => t_6_15 g
  | 15, _ => t_6_16 g
  | n + 16, h => absurd h (by omega)
end K51

set_option Elab.async false
set_option linter.all false
set_option maxRecDepth 100000
set_option maxHeartbeats 1000000
namespace K51
open PySem Sx
theorem t_7_1 (g : G) : pwGo 7 1 g = .ok (sh (.bl true)) g := by kernel_rfl
theorem t_7_2 (g : G) : pwGo 7 2 g = .ok (sh (.bl true)) g := by kernel_rfl
theorem t_7_3 (g : G) : pwGo 7 3 g = .ok (sh (.bl true)) g := by kernel_rfl
theorem t_7_4 (g : G) : pwGo 7 4 g = .ok (sh (.bl true)) g := by kernel_rfl
theorem t_7_5 (g : G) : pwGo 7 5 g = .ok (sh (.bl true)) g := by kernel_rfl
theorem t_7_6 (g : G) : pwGo 7 6 g = .ok (sh (.bl true)) g := by kernel_rfl
theorem t_7_7 (g : G) : pwGo 7 7 g = .ok (sh (.bl true)) g := by kernel_rfl
theorem t_7_8 (g : G) : pwGo 7 8 g = .ok (sh (.bl true)) g := by kernel_rfl
theorem t_7_9 (g : G) : pwGo 7 9 g = .ok (sh (.bl true)) g := by kernel_rfl
theorem t_7_10 (g : G) : pwGo 7 10 g = .ok (sh (.bl true)) g := by kernel_rfl
theorem t_7_11 (g : G) : pwGo 7 11 g = .ok (sh (.bl true)) g := by kernel_rfl
theorem t_7_12 (g : G) : pwGo 7 12 g = .ok (sh (.bl true)) g := by kernel_rfl
theorem t_7_13 (g : G) : pwGo 7 13 g = .ok (sh (.bl true)) g := by kernel_rfl
theorem t_7_14 (g : G) : pwGo 7 14 g = .ok (sh (.bl true)) g := by kernel_rfl
theorem t_7_15 (g : G) : pwGo 7 15 g = .ok (sh (.bl true)) g := by kernel_rfl
theorem t_7_16 (g : G) : pwGo 7 16 g = .ok (sh (.bl true)) g := by kernel_rfl
theorem pw_7 (g : G) : ∀ b : Nat, b < 16 → pwGo 7 ((1 + b : Nat) : Int) g = .ok (sh (.bl true)) g
  | 0, _ => t_7_1 g
  | 1, _ => t_7_2 g
  | 2, _ => t_7_3 g
  | 3, _ => t_7_4 g
  | 4, _ => t_7_5 g
  | 5, _ => t_7_6 g
  | 6, _ => t_7_7 g
  | 7, _ => t_7_8 g
  | 8, _ => t_7_9 g
  | 9, _ => t_7_10 g
  | 10, _ => t_7_11 g
  | 11, _ => t_7_12 g
  | 12, _ => t_7_13 g
  | 13, _ => t_7_14 g
  | 14, _ => t_7_15 g
  | 15, _ => t_7_16 g
  | n + 16, h => absurd h (by omega)
end K51

set_option Elab.async false
set_option linter.all false
set_option maxRecDepth 100000
set_option maxHeartbeats 1000000
namespace K51
open PySem Sx
theorem t_8_1 (g : G) : pwGo 8 1 g = .ok (sh (.bl true)) g := by kernel_rfl
theorem t_8_2 (g : G) : pwGo 8 2 g = .ok (sh (.bl true)) g := by kernel_rfl
theorem t_8_3 (g : G) : pwGo 8 3 g = .ok (sh (.bl true)) g := by kernel_rfl
theorem t_8_4 (g : G) : pwGo 8 4 g = .ok (sh (.bl true)) g := by kernel_rfl
theorem t_8_5 (g : G) : pwGo 8 5 g = .ok (sh (.bl true)) g := by kernel_rfl
theorem t_8_6 (g : G) : pwGo 8 6 g = .ok (sh (.bl true)) g := by kernel_rfl
theorem t_8_7 (g : G) : pwGo 8 7 g = .ok (sh (.bl true)) g := by kernel_rfl
theorem t_8_8 (g : G) : pwGo 8 8 g = .ok (sh (.bl true)) g := by kernel_rfl
theorem t_8_9 (g : G) : pwGo 8 9 g = .ok (sh (.bl true)) g := by kernel_rfl
theorem t_8_10 (g : G) : pwGo 8 10 g = .ok (sh (.bl true)) g := by kernel_rfl
theorem t_8_11 (g : G) : pwGo 8 11 g = .ok (sh (.bl true)) g := by kernel_rfl
theorem t_8_12 (g : G) : pwGo 8 12 g = .ok (sh (.bl true)) g := by kernel_rfl
theorem t_8_13 (g : G) : pwGo 8 13 g = .ok (sh (.bl true)) g := by kernel_rfl
theorem t_8_14 (g : G) : pwGo 8 14 g = .ok (sh (.bl true)) g := by kernel_rfl
theorem t_8_15 (g : G) : pwGo 8 15 g = .ok (sh (.bl true)) g := by kernel_rfl
theorem t_8_16 (g : G) : pwGo 8 16 g = .ok (sh (.bl true)) g := by kernel_rfl
theorem pw_8 (g : G) : ∀ b : Nat, b < 16 → pwGo 8 ((1 + b : Nat) : Int) g = .ok (sh (.bl true)) g
  | 0, _ => t_8_1 g
  | 1, _ => t_8_2 g
  | 2, _ => t_8_3 g
  | 3, _ => t_8_4 g
  | 4, _ => t_8_5 g
  | 5, _ => t_8_6 g
  | 6, _ => t_8_7 g
  | 7, _ => t_8_8 g
  | 8, _ => t_8_9 g
  | 9, _ => t_8_10 g
  | 10, _ => t_8_11 g
  | 11, _ => t_8_12 g
  | 12, _ => t_8_13 g
  | 13, _ => t_8_14 g
  | 14, _ => t_8_15 g
  | 15, _ => t_8_16 g
  | n + 16, h => absurd h (by omega)
end K51

set_option Elab.async false
set_option linter.all false
set_option maxRecDepth 100000
set_option maxHeartbeats 1000000
namespace K51
open PySem Sx
theorem t_9_1 (g : G) : pwGo 9 1 g = .ok (sh (.bl true)) g := by kernel_rfl
theorem t_9_2 (g : G) : pwGo 9 2 g = .ok (sh (.bl true)) g := by kernel_rfl
theorem t_9_3 (g : G) : pwGo 9 3 g = .ok (sh (.bl true)) g := by kernel_rfl
theorem t_9_4 (g : G) : pwGo 9 4 g = .ok (sh (.bl true)) g := by kernel_rfl
theorem t_9_5 (g : G) : pwGo 9 5 g = .ok (sh (.bl true)) g := by kernel_rfl
theorem t_9_6 (g : G) : pwGo 9 6 g = .ok (sh (.bl true)) g := by kernel_rfl
theorem t_9_7 (g : G) : pwGo 9 7 g = .ok (sh (.bl true)) g := by kernel_rfl
theorem t_9_8 (g : G) : pwGo 9 8 g = .ok (sh (.bl true)) g := by kernel_rfl
theorem t_9_9 (g : G) : pwGo 9 9 g = .ok (sh (.bl true)) g := by kernel_rfl
theorem t_9_10 (g : G) : pwGo 9 10 g = .ok (sh (.bl true)) g := by kernel_rfl
theorem t_9_11 (g : G) : pwGo 9 11 g = .ok (sh (.bl true)) g := by kernel_rfl
theorem t_9_12 (g : G) : pwGo 9 12 g = .ok (sh (.bl true)) g := by kernel_rfl
theorem t_9_13 (g : G) : pwGo 9 13 g = .ok (sh (.bl true)) g := by kernel_rfl
theorem t_9_14 (g : G) : pwGo 9 14 g = .ok (sh (.bl true)) g := by kernel_rfl
theorem t_9_15 (g : G) : pwGo 9 15 g = .ok (sh (.bl true)) g := by kernel_rfl
theorem t_9_16 (g : G) : pwGo 9 16 g = .ok (sh (.bl true)) g := by kernel_rfl
theorem pw_9 (g : G) : ∀ b : Nat, b < 16 → pwGo 9 ((1 + b : Nat) : Int) g = .ok (sh (.bl true)) g
  | 0, _ => t_9_1 g
  | 1, _ => t_9_2 g
  | 2, _ => t_9_3 g
  | 3, _ => t_9_4 g
  | 4, _ => t_9_5 g
  | 5, _ => t_9_6 g
  | 6, _ => t_9_7 g
  | 7, _ => t_9_8 g
  | 8, _ => t_9_9 g
  | 9, _ => t_9_10 g
  | 10, _ => t_9_11 g
  | 11, _ => t_9_12 g
  | 12, _ => t_9_13 g
  | 13, _ => t_9_14 g
  | 14, _ => t_9_15 g
  | 15, _ => t_9_16 g
  | n + 16, h => absurd h (by omega)
end K51

set_option Elab.async false
set_option linter.all false
set_option maxRecDepth 100000
set_option maxHeartbeats 1000000
namespace K51
open PySem Sx
theorem t_10_1 (g : G) : pwGo 10 1 g = .ok (sh (.bl true)) g := by kernel_rfl
theorem t_10_2 (g : G) : pwGo 10 2 g = .ok (sh (.bl true)) g := by kernel_rfl
theorem t_10_3 (g : G) : pwGo 10 3 g = .ok (sh (.bl true)) g := by kernel_rfl
theorem t_10_4 (g : G) : pwGo 10 4 g = .ok (sh (.bl true)) g := by kernel_rfl
theorem t_10_5 (g : G) : pwGo 10 5 g = .ok (sh (.bl true)) g := by kernel_rfl
theorem t_10_6 (g : G) : pwGo 10 6 g = .ok (sh (.bl true)) g := by kernel_rfl
theorem t_10_7 (g : G) : pwGo 10 7 g = .ok (sh (.bl true)) g := by kernel_rfl
theorem t_10_8 (g : G) : pwGo 10 8 g = .ok (sh (.bl true)) g := by kernel_rfl
theorem t_10_9 (g : G) : pwGo 10 9 g = .ok (sh (.bl true)) g := by kernel_rfl
theorem t_10_10 (g : G) : pwGo 10 10 g = .ok (sh (.bl true)) g := by kernel_rfl
theorem t_10_11 (g : G) : pwGo 10 11 g = .ok (sh (.bl true)) g := by kernel_rfl
theorem t_10_12 (g : G) : pwGo 10 12 g = .ok (sh (.bl true)) g := by kernel_rfl
theorem t_10_13 (g : G) : pwGo 10 13 g = .ok (sh (.bl true)) g := by kernel_rfl
theorem t_10_14 (g : G) : pwGo 10 14 g = .ok (sh (.bl true)) g := by kernel_rfl
theorem t_10_15 (g : G) : pwGo 10 15 g = .ok (sh (.bl true)) g := by kernel_rfl
theorem t_10_16 (g : G) : pwGo 10 16 g = .ok (sh (.bl true)) g := by kernel_rfl
theorem pw_10 (g : G) : ∀ b : Nat, b < 16 → pwGo 10 ((1 + b : Nat) : Int) g = .ok (sh (.bl true)) g
  | 0, _ => t_10_1 g
  | 1, _ => t_10_2 g
  | 2, _ => t_10_3 g
  | 3, _ => t_10_4 g
  | 4, _ => t_10_5 g
  | 5, _ => t_10_6 g
  | 6, _ => t_10_7 g
  | 7, _ => t_10_8 g
  | 8, _ => t_10_9 g
  | 9, _ => t_10_10 g
  | 10, _ => t_10_11 g
  | 11, _ => t_10_12 g
  | 12, _ => t_10_13 g
  | 13, _ => t_10_14 g
  | 14, _ => t_10_15 g
  | 15, _ => t_10_16 g
  | n + 16, h => absurd h (by omega)
end K51

set_option Elab.async false
set_option linter.all false
set_option maxRecDepth 100000
set_option maxHeartbeats 1000000
namespace K51
open PySem Sx
theorem t_11_1 (g : G) : pwGo 11 1 g = .ok (sh (.bl true)) g := by kernel_rfl
theorem t_11_2 (g : G) : pwGo 11 2 g = .ok (sh (.bl true)) g := by kernel_rfl
theorem t_11_3 (g : G) : pwGo 11 3 g = .ok (sh (.bl true)) g := by kernel_rfl
theorem t_11_4 (g : G) : pwGo 11 4 g = .ok (sh (.bl true)) g := by kernel_rfl
theorem t_11_5 (g : G) : pwGo 11 5 g = .ok (sh (.bl true)) g := by kernel_rfl
theorem t_11_6 (g : G) : pwGo 11 6 g = .ok (sh (.bl true)) g := by kernel_rfl
theorem t_11_7 (g : G) : pwGo 11 7 g = .ok (sh (.bl true)) g := by kernel_rfl
theorem t_11_8 (g : G) : pwGo 11 8 g = .ok (sh (.bl true)) g := by kernel_rfl
theorem t_11_9 (g : G) : pwGo 11 9 g = .ok (sh (.bl true)) g := by kernel_rfl
theorem t_11_10 (g : G) : pwGo 11 10 g = .ok (sh (.bl true)) g := by kernel_rfl
theorem t_11_11 (g : G) : pwGo 11 11 g = .ok (sh (.bl true)) g := by kernel_rfl
theorem t_11_12 (g : G) : pwGo 11 12 g = .ok (sh (.bl true)) g := by kernel_rfl
theorem t_11_13 (g : G) : pwGo 11 13 g = .ok (sh (.bl true)) g := by kernel_rfl
theorem t_11_14 (g : G) : pwGo 11 14 g = .ok (sh (.bl true)) g := by kernel_rfl
theorem t_11_15 (g : G) : pwGo 11 15 g = .ok (sh (.bl true)) g := by kernel_rfl
theorem t_11_16 (g : G) : pwGo 11 16 g = .ok (sh (.bl true)) g := by kernel_rfl
theorem pw_11 (g : G) : ∀ b : Nat, b < 16 → pwGo 11 ((1 + b : Nat) : Int) g = .ok (sh (.bl true)) g
  | 0, _ => t_11_1 g
  | 1, _ => t_11_2 g
  | 2, _ => t_11_3 g
  | 3, _ => t_11_4 g
  | 4, _ => t_11_5 g
  | 5, _ => t_11_6 g
  | 6, _ => t_11_7 g
  | 7, _ => t_11_8 g
  | 8, _ => t_11_9 g
  | 9, _ => t_11_10 g
  | 10, _ => t_11_11 g
  | 11, _ => t_11_12 g
  | 12, _ => t_11_13 g
  | 13, _ => t_11_14 g
  | 14, _ => t_11_15 g
  | 15, _ => t_11_16 g
  | n + 16, h => absurd h (by omega)
end K51

set_option Elab.async false
set_option linter.all false
set_option maxRecDepth 100000
set_option maxHeartbeats 1000000
namespace K51
open PySem Sx
theorem t_12_1 (g : G) : pwGo 12 1 g = .ok (sh (.bl true)) g := by kernel_rfl
theorem t_12_2 (g : G) : pwGo 12 2 g = .ok (sh (.bl true)) g := by kernel_rfl
theorem t_12_3 (g : G) : pwGo 12 3 g = .ok (sh (.bl true)) g := by kernel_rfl
theorem t_12_4 (g : G) : pwGo 12 4 g = .ok (sh (.bl true)) g := by kernel_rfl
theorem t_12_5 (g : G) : pwGo 12 5 g = .ok (sh (.bl true)) g := by kernel_rfl
theorem t_12_6 (g : G) : pwGo 12 6 g = .ok (sh (.bl true)) g := by kernel_rfl
theorem t_12_7 (g : G) : pwGo 12 7 g = .ok (sh (.bl true)) g := by kernel_rfl
theorem t_12_8 (g : G) : pwGo 12 8 g = .ok (sh (.bl true)) g := by kernel_rfl
theorem t_12_9 (g : G) : pwGo 12 9 g = .ok (sh (.bl true)) g := by kernel_rfl
theorem t_12_10 (g : G) : pwGo 12 10 g = .ok (sh (.bl true)) g := by kernel_rfl
theorem t_12_11 (g : G) : pwGo 12 11 g = .ok (sh (.bl true)) g := by kernel_rfl
theorem t_12_12 (g : G) : pwGo 12 12 g = .ok (sh (.bl true)) g := by kernel_rfl
theorem t_12_13 (g : G) : pwGo 12 13 g = .ok (sh (.bl true)) g := by kernel_rfl
theorem t_12_14 (g : G) : pwGo 12 14 g = .ok (sh (.bl true)) g := by kernel_rfl
theorem t_12_15 (g : G) : pwGo 12 15 g = .ok (sh (.bl true)) g := by kernel_rfl
theorem t_12_16 (g : G) : pwGo 12 16 g = .ok (sh (.bl true)) g := by kernel_rfl
theorem pw_12 (g : G) : ∀ b : Nat, b < 16 → pwGo 12 ((1 + b : Nat) : Int) g = .ok (sh (.bl true)) g
  | 0, _ => t_12_1 g
  | 1, _ => t_12_2 g
  | 2, _ => t_12_3 g
  | 3, _ => t_12_4 g
  | 4, _ => t_12_5 g
  | 5, _ => t_12_6 g
  | 6, _ => t_12_7 g
  | 7, _ => t_12_8 g
  | 8, _ => t_12_9 g
  | 9, _ => t_12_10 g
  | 10, _ => t_12_11 g
  | 11, _ => t_12_12 g
  | 12, _ => t_12_13 g
  | 13, _ => t_12_14 g
  | 14, _ => t_12_15 g
  | 15, _ => t_12_16 g
  | n + 16, h => absurd h (by omega)
end K51

set_option Elab.async false
set_option linter.all false
set_option maxRecDepth 100000
set_option maxHeartbeats 1000000
namespace K51
open PySem Sx
theorem t_13_1 (g : G) : pwGo 13 1 g = .ok (sh (.bl true)) g := by kernel_rfl
theorem t_13_2 (g : G) : pwGo 13 2 g = .ok (sh (.bl true)) g := by kernel_rfl
theorem t_13_3 (g : G) : pwGo 13 3 g = .ok (sh (.bl true)) g := by kernel_rfl
theorem t_13_4 (g : G) : pwGo 13 4 g = .ok (sh (.bl true)) g := by kernel_rfl
theorem t_13_5 (g : G) : pwGo 13 5 g = .ok (sh (.bl true)) g := by kernel_rfl
theorem t_13_6 (g : G) : pwGo 13 6 g = .ok (sh (.bl true)) g := by kernel_rfl
theorem t_13_7 (g : G) : pwGo 13 7 g = .ok (sh (.bl true)) g := by kernel_rfl
theorem t_13_8 (g : G) : pwGo 13 8 g = .ok (sh (.bl true)) g := by kernel_rfl
theorem t_13_9 (g : G) : pwGo 13 9 g = .ok (sh (.bl true)) g := by kernel_rfl
theorem t_13_10 (g : G) : pwGo 13 10 g = .ok (sh (.bl true)) g := by kernel_rfl
theorem t_13_11 (g : G) : pwGo 13 11 g = .ok (sh (.bl true)) g := by kernel_rfl
theorem t_13_12 (g : G) : pwGo 13 12 g = .ok (sh (.bl true)) g := by kernel_rfl
theorem t_13_13 (g : G) : pwGo 13 13 g = .ok (sh (.bl true)) g := by kernel_rfl
theorem t_13_14 (g : G) : pwGo 13 14 g = .ok (sh (.bl true)) g := by kernel_rfl
theorem t_13_15 (g : G) : pwGo 13 15 g = .ok (sh (.bl true)) g := by kernel_rfl
theorem t_13_16 (g : G) : pwGo 13 16 g = .ok (sh (.bl true)) g := by kernel_rfl
theorem pw_13 (g : G) : ∀ b : Nat, b < 16 → pwGo 13 ((1 + b : Nat) : Int) g = .ok (sh (.bl true)) g
  | 0, _ => t_13_1 g
  | 1, _ => t_13_2 g
  | 2, _ => t_13_3 g
  | 3, _ => t_13_4 g
  | 4, _ => t_13_5 g
  | 5, _ => t_13_6 g
  | 6, _ => t_13_7 g
  | 7, _ => t_13_8 g
  | 8, _ => t_13_9 g
  | 9, _ => t_13_10 g
  | 10, _ => t_13_11 g
  | 11, _ => t_13_12 g
  | 12, _ => t_13_13 g
  | 13, _ => t_13_14 g
  | 14, _ => t_13_15 g
  | 15, _ => t_13_16 g
  | n + 16, h => absurd h (by omega)
end K51

set_option Elab.async false
set_option linter.all false
set_option maxRecDepth 100000
set_option maxHeartbeats 1000000
namespace K51
open PySem Sx
theorem t_14_1 (g : G) : pwGo 14 1 g = .ok (sh (.bl true)) g := by kernel_rfl
theorem t_14_2 (g : G) : pwGo 14 2 g = .ok (sh (.bl true)) g := by kernel_rfl
theorem t_14_3 (g : G) : pwGo 14 3 g = .ok (sh (.bl true)) g := by kernel_rfl
theorem t_14_4 (g : G) : pwGo 14 4 g = .ok (sh (.bl true)) g := by kernel_rfl
theorem t_14_5 (g : G) : pwGo 14 5 g = .ok (sh (.bl true)) g := by kernel_rfl
theorem t_14_6 (g : G) : pwGo 14 6 g = .ok (sh (.bl true)) g := by kernel_rfl
theorem t_14_7 (g : G) : pwGo 14 7 g = .ok (sh (.bl true)) g := by kernel_rfl
theorem t_14_8 (g : G) : pwGo 14 8 g = .ok (sh (.bl true)) g := by kernel_rfl
theorem t_14_9 (g : G) : pwGo 14 9 g = .ok (sh (.bl true)) g := by kernel_rfl
theorem t_14_10 (g : G) : pwGo 14 10 g = .ok (sh (.bl true)) g := by kernel_rfl
theorem t_14_11 (g : G) : pwGo 14 11 g = .ok (sh (.bl true)) g := by kernel_rfl
theorem t_14_12 (g : G) : pwGo 14 12 g = .ok (sh (.bl true)) g := by kernel_rfl
theorem t_14_13 (g : G) : pwGo 14 13 g = .ok (sh (.bl true)) g := by kernel_rfl
theorem t_14_14 (g : G) : pwGo 14 14 g = .ok (sh (.bl true)) g := by kernel_rfl
theorem t_14_15 (g : G) : pwGo 14 15 g = .ok (sh (.bl true)) g := by kernel_rfl
theorem t_14_16 (g : G) : pwGo 14 16 g = .ok (sh (.bl true)) g := by kernel_rfl
theorem pw_14 (g : G) : ∀ b : Nat, b < 16 → pwGo 14 ((1 + b : Nat) : Int) g = .ok (sh (.bl true)) g
  | 0, _ => t_14_1 g
  | 1, _ => t_14_2 g
  | 2, _ => t_14_3 g
  | 3, _ => t_14_4 g
  | 4, _ => t_14_5 g
  | 5, _ => t_14_6 g
  | 6, _ => t_14_7 g
  | 7, _ => t_14_8 g
  | 8, _ => t_14_9 g
  | 9, _ => t_14_10 g
  | 10, _ => t_14_11 g
  | 11, _ => t_14_12 g
  | 12, _ => t_14_13 g
  | 13, _ => t_14_14 g
  | 14, _ => t_14_15 g
  | 15, _ => t_14_16 g
  | n + 16, h => absurd h (by omega)
end K51

set_option Elab.async false
set_option linter.all false
set_option maxRecDepth 100000
set_option maxHeartbeats 1000000
namespace K51
open PySem Sx
theorem t_15_1 (g : G) : pwGo 15 1 g = .ok (sh (.bl true)) g := by kernel_rfl
theorem t_15_2 (g : G) : pwGo 15 2 g = .ok (sh (.bl true)) g := by kernel_rfl
theorem t_15_3 (g : G) : pwGo 15 3 g = .ok (sh (.bl true)) g := by kernel_rfl
theorem t_15_4 (g : G) : pwGo 15 4 g = .ok (sh (.bl true)) g := by kernel_rfl
theorem t_15_5 (g : G) : pwGo 15 5 g = .ok (sh (.bl true)) g := by kernel_rfl
theorem t_15_6 (g : G) : pwGo 15 6 g = .ok (sh (.bl true)) g := by kernel_rfl
theorem t_15_7 (g : G) : pwGo 15 7 g = .ok (sh (.bl true)) g := by kernel_rfl
theorem t_15_8 (g : G) : pwGo 15 8 g = .ok (sh (.bl true)) g := by kernel_rfl
theorem t_15_9 (g : G) : pwGo 15 9 g = .ok (sh (.bl true)) g := by kernel_rfl
theorem t_15_10 (g : G) : pwGo 15 10 g = .ok (sh (.bl true)) g := by kernel_rfl
theorem t_15_11 (g : G) : pwGo 15 11 g = .ok (sh (.bl true)) g := by kernel_rfl
theorem t_15_12 (g : G) : pwGo 15 12 g = .ok (sh (.bl true)) g := by kernel_rfl
theorem t_15_13 (g : G) : pwGo 15 13 g = .ok (sh (.bl true)) g := by kernel_rfl
theorem t_15_14 (g : G) : pwGo 15 14 g = .ok (sh (.bl true)) g := by kernel_rfl
theorem t_15_15 (g : G) : pwGo 15 15 g = .ok (sh (.bl true)) g := by kernel_rfl
theorem t_15_16 (g : G) : pwGo 15 16 g = .ok (sh (.bl true)) g := by kernel_rfl
theorem pw_15 (g : G) : ∀ b : Nat, b < 16 → pwGo 15 ((1 + b : Nat) : Int) g = .ok (sh (.bl true)) g
  | 0, _ => t_15_1 g
  | 1, _ => t_15_2 g
  | 2, _ => t_15_3 g
  | 3, _ => t_15_4 g
  | 4, _ => t_15_5 g
  | 5, _ => t_15_6 g
  | 6, _ => t_15_7 g
  | 7, _ => t_15_8 g
  | 8, _ => t_15_9 g
  | 9, _ => t_15_10 g
  | 10, _ => t_15_11 g
  | 11, _ => t_15_12 g
  | 12, _ => t_15_13 g
  | 13, _ => t_15_14 g
  | 14, _ => t_15_15 g
  | 15, _ => t_15_16 g
  | n + 16, h => absurd h (by omega)
end K51

set_option Elab.async false
set_option linter.all false
set_option maxRecDepth 100000
set_option maxHeartbeats 1000000
namespace K51
open PySem Sx
theorem t_16_1 (g : G) : pwGo 16 1 g = .ok (sh (.bl true)) g := by kernel_rfl
theorem t_16_2 (g : G) : pwGo 16 2 g = .ok (sh (.bl true)) g := by kernel_rfl
theorem t_16_3 (g : G) : pwGo 16 3 g = .ok (sh (.bl true)) g := by kernel_rfl
theorem t_16_4 (g : G) : pwGo 16 4 g = .ok (sh (.bl true)) g := by kernel_rfl
theorem t_16_5 (g : G) : pwGo 16 5 g = .ok (sh (.bl true)) g := by kernel_rfl
theorem t_16_6 (g : G) : pwGo 16 6 g = .ok (sh (.bl true)) g := by kernel_rfl
theorem t_16_7 (g : G) : pwGo 16 7 g = .ok (sh (.bl true)) g := by kernel_rfl
theorem t_16_8 (g : G) : pwGo 16 8 g = .ok (sh (.bl true)) g := by kernel_rfl
theorem t_16_9 (g : G) : pwGo 16 9 g = .ok (sh (.bl true)) g := by kernel_rfl
theorem t_16_10 (g : G) : pwGo 16 10 g = .ok (sh (.bl true)) g := by kernel_rfl
theorem t_16_11 (g : G) : pwGo 16 11 g = .ok (sh (.bl true)) g := by kernel_rfl
theorem t_16_12 (g : G) : pwGo 16 12 g = .ok (sh (.bl true)) g := by kernel_rfl
theorem t_16_13 (g : G) : pwGo 16 13 g = .ok (sh (.bl true)) g := by kernel_rfl
theorem t_16_14 (g : G) : pwGo 16 14 g = .ok (sh (.bl true)) g := by kernel_rfl
theorem t_16_15 (g : G) : pwGo 16 15 g = .ok (sh (.bl true)) g := by kernel_rfl
theorem t_16_16 (g : G) : pwGo 16 16 g = .ok (sh (.bl true)) g := by kernel_rfl
theorem pw_16 (g : G) : ∀ b : Nat, b < 16 → pwGo 16 ((1 + b : Nat) : Int) g = .ok (sh (.bl true)) g
  | 0, _ => t_16_1 g
  | 1, _ => t_16_2 g
  | 2, _ => t_16_3 g
  | 3, _ => t_16_4 g
  | 4, _ => t_16_5 g
  | 5, _ => t_16_6 g
  | 6, _ => t_16_7 g
  | 7, _ => t_16_8 g
  | 8, _ => t_16_9 g
  | 9, _ => t_16_10 g
  | 10, _ => t_16_11 g
  | 11, _ => t_16_12 g
  | 12, _ => t_16_13 g
  | 13, _ => t_16_14 g
  | 14, _ => t_16_15 g
  | 15, _ => t_16_16 g
  | n + 16, h => absurd h (by omega)
end K51

set_option Elab.async false
set_option linter.all false
set_option maxRecDepth 100000
set_option maxHeartbeats 1000000
namespace K51
open PySem Sx
theorem pw_all (g : G) : ∀ a b : Nat, a < 16 → b < 16 → pwGo ((1 + a : Nat) : Int) ((1 + b : Nat) : Int) g = .ok (sh (.bl true)) g
  | 0, b, _, hb => pw_1 g b hb
  | 1, b, _, hb => pw_2 g b hb
  | 2, b, _, hb => pw_3 g b hb
  | 3, b, _, hb => pw_4 g b hb
  | 4, b, _, hb => pw_5 g b hb
  | 5, b, _, hb => pw_6 g b hb
  | 6, b, _, hb => pw_7 g b hb
  | 7, b, _, hb => pw_8 g b hb
  | 8, b, _, hb => pw_9 g b hb
  | 9, b, _, hb => pw_10 g b hb
  | 10, b, _, hb => pw_11 g b hb
  | 11, b, _, hb => pw_12 g b hb
  | 12, b, _, hb => pw_13 g b hb
  | 13, b, _, hb => pw_14 g b hb
  | 14, b, _, hb => pw_15 g b hb
  | 15, b, _, hb => pw_16 g b hb
  | n + 16, _, h, _ => absurd h (by omega)
end K51

set_option Elab.async false
set_option linter.all false
set_option maxRecDepth 100000
set_option maxHeartbeats 1000000
namespace K51
open PySem Sx
theorem for_3 {b : S} {i j k : Nat} {x y z : D} {xs : List D} {ρ ρ1 : Ro} {g g1 : G} (h : b (((ρ.set i (oS x)).set j (oS y)).set k (oS z)) g = .nx ρ1 g1) : forL (.three (.v i) (.v j) (.v k)) b (.tup [x, y, z] :: xs) ρ g = forL (.three (.v i) (.v j) (.v k)) b xs ρ1 g1 := by
  have p : (Tg.three (.v i) (.v j) (.v k)).put (.tup [x, y, z]) ρ = some (((ρ.set i (oS x)).set j (oS y)).set k (oS z)) := by
    simp only [Tg.put, fD_eq, setK_eq]
  rw [forL, p]
  dsimp only
  rw [h]
theorem refused_ok {gs : GS} {n : Int} (G0 : GOk gs n) (hn : n ≤ 1400) : ∃ gs' n', m__law_refused [.st] (some gs) = .ok (sh (.bl true)) (some gs') ∧ GOk gs' n' ∧ n' ≤ n + 20 := by
  obtain ⟨d, g1, e1, hd, G1⟩ := of_is (ds := odds) (by decide) (by decide) G0 (by omega)
  obtain ⟨zs, g2, e2, l2, u2, z2, G2⟩ := step_is (k := 2) (m := 3) (d := 2) (L := 2) (fun b h1 h2 => by
    have : b = 1 ∨ b = 2 := by omega
    rcases this with rfl | rfl
    · exact ⟨2, rfl⟩
    · exact ⟨1, rfl⟩) (by decide) (by decide) (by decide) (by decide) (by decide) (by decide) G1 (by omega)
  have wn : Wn (rl 2 zs) := by
    have hd2 : Hd 8 (rl 2 zs) := ⟨2, zs, by decide, rfl, Nat.le_trans u2 (by decide), by decide⟩
    exact ⟨fun q hq => ((hd2.mem q hq).mono (by decide : 8 ≤ 199)).nm, by rw [rl_len]; omega, by rw [rl_len]; omega, z2⟩
  refine ⟨g2, _, ?_, G2, by omega⟩
  have hq := need_step_n wn (some g2)
  have non : D.non ∈ odds := List.mem_cons_self
  have s1 : sAsg 1 (eCall m__law_of [(eVar 0), (eLst [(eVal .non), (eTup []), (eTup [(eTup [(eVal (.int 1)), (eVal (.int 1))])]), (eTup [(eTup [(eVal (.int 1)), (eVal (.int 1))]), (eTup [(eVal (.int 0)), (eVal (.int 1))])]), (eLst [(eTup [(eVal (.int 0)), (eVal (.int 1))]), (eTup [(eVal (.int 1)), (eVal (.int 1))])])])]) [oS .st, none, none, none, none, none, none] (some gs) = .nx [oS .st, oS d, none, none, none, none, none] (some g1) :=
    asg_ok (call_a (.cons (b := sh .st) rfl (tsh _) (.cons (b := ow (.lst odds)) rfl (tow _) .nil)) e1) (tsh _)
  have s2 : sAsg 2 (eCall m__law_step [(eVar 0), (eVal (.int 2)), (eVal (.int 3)), (eVal (.int 2))]) [oS .st, oS d, none, none, none, none, none] (some g1) = .nx [oS .st, oS d, oS (P (rl 2 zs)), none, none, none, none] (some g2) :=
    asg_ok (call_a (a4 (x := .st) (y := nI 2) (z := nI 3) (u := nI 2) rfl rfl rfl rfl) e2) (tsh _)
  have l : sFor (iSeq (eTup [(eTup [(eVar 1), (eVal .non), (eVar 1)]), (eTup [(eVar 2), (eVar 1), (eVar 1)]), (eTup [(eVal .non), (eVar 1), (eVal .non)])])) (.three (.v 3) (.v 4) (.v 5)) bOut [oS .st, oS d, oS (P (rl 2 zs)), none, none, none, none] (some g2) = .nx [oS .st, oS d, oS (P (rl 2 zs)), oS .non, oS d, oS .non, oS (.fn 3)] (some g2) := by
    refine sFor_0 (ds := [.tup [d, .non, d], .tup [P (rl 2 zs), d, d], .tup [.non, d, .non]]) (g1 := some g2) rfl ?_
    rw [for_3 (ρ1 := [oS .st, oS d, oS (P (rl 2 zs)), oS d, oS .non, oS d, oS (.fn 3)]) (out_ok (bad_1 hd _)), for_3 (ρ1 := [oS .st, oS d, oS (P (rl 2 zs)), oS (P (rl 2 zs)), oS d, oS d, oS (.fn 3)]) (out_ok (bad_2 hq hd)), for_3 (ρ1 := [oS .st, oS d, oS (P (rl 2 zs)), oS .non, oS d, oS .non, oS (.fn 3)]) (out_ok (bad_1 non _))]
    rfl
  show ends (b__law_refused [oS .st, none, none, none, none, none, none] (some gs)) = _
  refine congrArg ends (a₂ := .rt (sh (.bl true)) (some g2)) ?_
  exact go s1 (go s2 (go_fz (i := 2) rfl (go_fz (i := 1) rfl (go l rfl))))
theorem powers_ok {gs : GS} {n : Int} (G0 : GOk gs n) (hn : n ≤ 1400) : ∃ gs' n', m__law_powers [.st] (some gs) = .ok (sh (.bl true)) (some gs') ∧ GOk gs' n' ∧ n' ≤ n + 20 := by
  obtain ⟨a, g1, e1, b1, G1⟩ := draw_is (l := 16) G0 (by omega) (by decide) (by decide)
  obtain ⟨b, g2, e2, b2, G2⟩ := draw_is (l := 16) G1 (by omega) (by decide) (by decide)
  refine ⟨g2, _, ?_, G2, by omega⟩
  show ends (b__law_powers [oS .st, none, none, none, none, none, none, none] (some gs)) = _
  have s1 : sPar 6 7 (eBin oAdd (eVal (.int 1)) (eCall m__law_draw [(eVar 0), (eVal (.int 16))])) (eBin oAdd (eVal (.int 1)) (eCall m__law_draw [(eVar 0), (eVal (.int 16))])) [oS .st, none, none, none, none, none, none, none] (some gs) = .nx [oS .st, none, none, none, none, none, oS (.int ((1 + a : Nat) : Int)), oS (.int ((1 + b : Nat) : Int))] (some g2) :=
    par_ok (one_draw rfl e1) (one_draw rfl e2)
  have := pw_all (some g2) a b (by omega) (by omega)
  rw [pw_eq, seq_nx s1]
  exact this
theorem too_great_ok {gs : GS} {n : Int} (G0 : GOk gs n) (hn : n ≤ 1400) : ∃ gs' n', m__law_too_great [.st] (some gs) = .ok (sh (.bl true)) (some gs') ∧ GOk gs' n' ∧ n' ≤ n + 20 := by
  obtain ⟨d, g1, e1, hd, G1⟩ := of_is (ds := [.tup [bigD, pwD 64], .tup [pwD 64, bigD], .tup [pwD 52, pwD 5]]) (by decide) (by decide) G0 (by omega)
  refine ⟨g1, _, ?_, G1, by omega⟩
  show ends (b__law_too_great [oS .st, none, none, none, none] (some gs)) = _
  have s1 : sAsg 1 (eBin oAdd (eBin oAdd (eTup [(eTup [(eBin oPow (eVal (.int 10)) (eVal (.int 60))), (eVal (.int 1))])]) (eBin oMulZ (eTup [(eTup [(eVal (.int 1)), (eBin oPow (eVal (.int 10)) (eVal (.int 60)))])]) (eVal (.int 62)))) (eTup [(eTup [(eVal (.int 7)), (eVal (.int 1))])])) [oS .st, none, none, none, none] (some gs) = .nx [oS .st, oS bigD, none, none, none] (some gs) := by kernel_rfl
  have a0 : eLst [(eTup [(eVar 1), (eCall m__law_power [(eVal (.int 64))])]), (eTup [(eCall m__law_power [(eVal (.int 64))]), (eVar 1)]), (eTup [(eCall m__law_power [(eVal (.int 52))]), (eCall m__law_power [(eVal (.int 5))])])] [oS .st, oS bigD, none, none, none] (some gs) = .ok (ow (.lst [.tup [bigD, pwD 64], .tup [pwD 64, bigD], .tup [pwD 52, pwD 5]])) (some gs) := by kernel_rfl
  have t0 : ∃ x y, d = .tup [x, y] ∧ tgGo x y (some g1) = .ok (sh (.bl true)) (some g1) := by
    simp only [List.mem_cons, List.not_mem_nil, or_false] at hd
    rcases hd with rfl | rfl | rfl
    · exact ⟨_, _, rfl, g2 _⟩
    · exact ⟨_, _, rfl, g3 _⟩
    · exact ⟨_, _, rfl, K51.g1 _⟩
  obtain ⟨x, y, rfl, t⟩ := t0
  have s2 : sUnp (.two (.v 3) (.v 4)) (eCall m__law_of [(eVar 0), (eLst [(eTup [(eVar 1), (eCall m__law_power [(eVal (.int 64))])]), (eTup [(eCall m__law_power [(eVal (.int 64))]), (eVar 1)]), (eTup [(eCall m__law_power [(eVal (.int 52))]), (eCall m__law_power [(eVal (.int 5))])])])]) [oS .st, oS bigD, none, none, none] (some gs) = .nx [oS .st, oS bigD, none, oS x, oS y] (some g1) :=
    unp2 (call_a (.cons (b := sh .st) rfl (tsh _) (.cons (b := ow _) a0 (tow _) .nil)) e1)
  unfold b__law_too_great
  rw [seq_nx s1]
  rw [show ∀ k, sSeq (sFreeze 1) k [oS .st, oS bigD, none, none, none] (some gs) = k [oS .st, oS bigD, none, none, none] (some gs) from fun k => go_fz (i := 1) rfl rfl]
  rw [seq_nx s2]
  exact t
/-! ### the law -/
theorem eor {f k : E} {ρ : Ro} {g g1 g2 : G} {b : B} (h : f ρ g = .ok (sh (.bl false)) g1) (h2 : k ρ g1 = .ok b g2) : eOr f k ρ g = .ok b g2 := by
  unfold eOr
  rw [h]
  exact h2
theorem eand {f k : E} {ρ : Ro} {g g1 g2 : G} {b : B} (h : f ρ g = .ok (sh (.bl true)) g1) (h2 : k ρ g1 = .ok b g2) : eAnd f k ρ g = .ok b g2 := by
  unfold eAnd
  rw [h]
  exact h2
def bLap : S := (sSeq (sFreeze 1) (sIf (eOr (eNot (eCall m__law_powers [(eVar 1)])) (eOr (eNot (eCall m__law_too_great [(eVar 1)])) (eNot (eCall m__law_refused [(eVar 1)]))))
 (sRet (eVal (.bl false)))
 sPass))
theorem lap_ok {gs : GS} {n : Int} (o t : O) (G0 : GOk gs n) (hn : n ≤ 1000) (v : O) : ∃ gs' n', bLap [o, oS .st, v, t] (some gs) = .nx [o, oS .st, v, t] (some gs') ∧ GOk gs' n' ∧ n' ≤ n + 60 := by
  obtain ⟨g1, n1, e1, G1, h1⟩ := powers_ok G0 (by omega)
  obtain ⟨g2, n2, e2, G2, h2⟩ := too_great_ok G1 (by omega)
  obtain ⟨g3, n3, e3, G3, h3⟩ := refused_ok G2 (by omega)
  refine ⟨g3, n3, ?_, G3, by omega⟩
  refine go_fz (i := 1) rfl ?_
  rw [if_f (eor (not_ok (b := true) (call_a (a1 (x := .st) rfl) e1)) (eor (not_ok (b := true) (call_a (a1 (x := .st) rfl) e2)) (not_ok (b := true) (call_a (a1 (x := .st) rfl) e3))))]
  rfl
theorem last_two (g : G) : (m_common_whole [pwD 64, pwD 4] g = .ok (sh (.tup [pwD 1, pwD 16, pwD 64])) g) := by kernel_rfl
theorem pw_ok (g : G) : m__law_power [.int 64] g = .ok (sh (pwD 64)) g ∧ m__law_power [.int 4] g = .ok (sh (pwD 4)) g ∧ m__law_power [.int 1] g = .ok (sh (pwD 1)) g ∧ m__law_power [.int 16] g = .ok (sh (pwD 16)) g := ⟨by kernel_rfl, by kernel_rfl, by kernel_rfl, by kernel_rfl⟩
theorem plain (ns : List Int) (_ : ns.length ≤ 63) : ∃ g, m_law ns = .ok (sh (.bl true)) g := by
  obtain ⟨g1, n1, e1, G1, h1⟩ := lap_ok none none (gs0_ok ns) (by decide) (oS (.int 0))
  obtain ⟨g2, n2, e2, G2, h2⟩ := lap_ok none none G1 (by omega) (oS (.int 1))
  refine ⟨some g2, ?_⟩
  unfold m_law mLaw
  rw [show roL 4 = [none, some (sh .st), none, none] from rfl]
  have b0 : b_law = sSeq (sFor (iRange1 (eVal (.int 2))) (.v 2) bLap) (sSeq (sAsg 3 (eCall m_common_whole [(eCall m__law_power [(eVal (.int 64))]), (eCall m__law_power [(eVal (.int 4))])]))
 (sSeq (sFreeze 3) (sRet (eAnd (eCall m__law_named []) (eCall m__law_like [(eVar 3), (eTup [(eCall m__law_power [(eVal (.int 1))]), (eCall m__law_power [(eVal (.int 16))]), (eCall m__law_power [(eVal (.int 64))])])]))))) := rfl
  have w : sFor (iRange1 (eVal (.int 2))) (.v 2) bLap [none, oS .st, none, none] (some (gs0 ns)) = .nx [none, oS .st, oS (.int 1), none] (some g2) := by
    refine sFor_0 (ds := [.int 0, .int 1]) (g1 := some (gs0 ns)) rfl ?_
    rw [for_1 (ρ1 := [none, oS .st, oS (.int 0), none]) e1, for_1 (ρ1 := [none, oS .st, oS (.int 1), none]) e2]
    rfl
  obtain ⟨p64, p4, p1, p16⟩ := pw_ok (some g2)
  have main : b_law [none, oS .st, none, none] (some (gs0 ns)) = .rt (sh (.bl true)) (some g2) := by
    rw [b0]
    refine go w (go (mul_asg (call_a (a2 (x := pwD 64) (y := pwD 4) (call_a (a1 (x := .int 64) rfl) p64) (call_a (a1 (x := .int 4) rfl) p4)) (last_two _))) (go_fz (i := 3) rfl (ret_ok ?_)))
    refine eand (call_a .nil (nm _)) ?_
    exact like_e (d := .tup [pwD 1, pwD 16, pwD 64]) rfl (tup_a (a3 (x := pwD 1) (y := pwD 16) (z := pwD 64) (call_a (a1 (x := .int 1) rfl) p1) (call_a (a1 (x := .int 16) rfl) p16) (call_a (a1 (x := .int 64) rfl) p64))) (by decide +kernel)
  rw [main]
  rfl
end K51

set_option Elab.async false
set_option linter.all false
set_option maxRecDepth 100000
set_option maxHeartbeats 0
namespace K51
open PySem PySem.Spec PyProof.Rows L2 Sx
def f0 (K : PySem.W.Frag) : Nat → Option Addr
  | 1 => some (He.ga K "common_whole")
  | 2 => some (He.ga K "are_joined")
  | 3 => some (He.ga K "bar_places")
  | _ => none
def c0 (K : PySem.W.Frag) : Nat → Option Addr
  | 0 => some (He.ga K "StepError")
  | 1 => some (He.ga K "BadNumber")
  | 2 => some (He.ga K "BadStep")
  | 3 => some (He.ga K "BadRow")
  | 4 => some (He.ga K "BadParameter")
  | 5 => some (He.ga K "NoRow")
  | 6 => some (He.ga K "TooGreat")
  | _ => none
def C0 (K : PySem.W.Frag) : Cs := { fns := f0 K, cls := c0 K, st := none, T := [((He.cT K ("_law_named", none)).2, ((("_law_named" : Str) ++ ".<locals>.") ++ "<lambda>" : Str)), ((He.cT K ("_law_powers", none)).2, ((("_law_powers" : Str) ++ ".<locals>.") ++ "<lambda>" : Str)), ((He.cT K ("_law_refused", none)).2, ((("_law_refused" : Str) ++ ".<locals>.") ++ "<lambda>" : Str)), ((He.cT K ("_law_too_great", none)).2, ((("_law_too_great" : Str) ++ ".<locals>.") ++ "<lambda>" : Str))], codes := [], exa := none, ent := none }
theorem mkx_BadStep {K : PySem.W.Frag} {C f : Addr} (e : SxE.iniW K f = j_BadStep.val) (c : SxE.xtB PROG.main.file K C f = true) (n : PySem.W.findIn K (.ref C) "value" = some none) : SxE.X1 PROG K C f "value" := by
  have T : SxE.XTxt PROG K C f _ (SxE.xA1 "value" _ _) (SxE.xB1 _ "value" _ _ _ _ _ _ _ _ _ _ _ _) (SxE.xS1 "value") := SxE.xt_ok (d := j_BadStep) (by kernel_rfl) e c
  exact ⟨⟨_, _, _, _, _, _, _, _, _, _, _, _, _, _, _, _, T, fun _ _ _ _ _ _ _ _ => rfl, fun _ _ _ => ⟨_, rfl⟩⟩, n, rfl, rfl, rfl, rfl, rfl⟩
theorem mkx_NoRow {K : PySem.W.Frag} {C f : Addr} (e : SxE.iniW K f = j_NoRow.val) (c : SxE.xtB PROG.main.file K C f = true) : SxE.X0 PROG K C f := by
  have T : SxE.XTxt PROG K C f _ (SxE.xA0 _) (SxE.xB0 _ _ _ _ _ _ _ _) SxE.xS0 := SxE.xt_ok (d := j_NoRow) (by kernel_rfl) e c
  exact ⟨⟨_, _, _, _, _, _, _, _, _, _, T, fun _ _ _ _ _ _ _ => rfl, fun _ _ _ => ⟨_, rfl⟩⟩⟩
theorem mkx_TooGreat {K : PySem.W.Frag} {C f : Addr} (e : SxE.iniW K f = j_TooGreat.val) (c : SxE.xtB PROG.main.file K C f = true) (n : PySem.W.findIn K (.ref C) "most" = some none) : SxE.X1 PROG K C f "most" := by
  have T : SxE.XTxt PROG K C f _ (SxE.xA1 "most" _ _) (SxE.xB1 _ "most" _ _ _ _ _ _ _ _ _ _ _ _) (SxE.xS1 "most") := SxE.xt_ok (d := j_TooGreat) (by kernel_rfl) e c
  exact ⟨⟨_, _, _, _, _, _, _, _, _, _, _, _, _, _, _, _, T, fun _ _ _ _ _ _ _ _ => rfl, fun _ _ _ => ⟨_, rfl⟩⟩, n, rfl, rfl, rfl, rfl, rfl⟩
theorem facts {w : World} {K : PySem.W.Frag} {h : Heap} {mg : Str → Option Value} {f : Addr} (X : K.In h) (G : h.Ns mainGlobals mg) (hfa : mg ("law" : Str) = some (.ref f)) (c : SaysY fa fn tf is ex h K)
    (plain : ∀ ns : List Int, ns.length ≤ 63 → ∃ g, m_law ns = .ok (sh (.bl true)) g) : LawAtG PySem.Challenge.rw_stepswithin_k51_whole_bounds_of_common_w w K 200 63 "_law_script" mg f h := by
  obtain ⟨fd__law_begin, F__law_begin⟩ := c.d.def_ 0 (d := d__law_begin) rfl
  obtain ⟨fd__law_like, F__law_like⟩ := c.d.def_ 1 (d := d__law_like) rfl
  obtain ⟨fd__law_power, F__law_power⟩ := c.d.def_ 2 (d := d__law_power) rfl
  obtain ⟨fd__law_refusal, F__law_refusal⟩ := c.d.def_ 3 (d := d__law_refusal) rfl
  obtain ⟨fd_reduced, F_reduced⟩ := c.d.def_ 4 (d := d_reduced) rfl
  obtain ⟨fd_as_poly, F_as_poly⟩ := c.d.def_ 5 (d := d_as_poly) rfl
  obtain ⟨fd_is_from, F_is_from⟩ := c.d.def_ 6 (d := d_is_from) rfl
  obtain ⟨fd_is_number, F_is_number⟩ := c.d.def_ 7 (d := d_is_number) rfl
  obtain ⟨fd_is_step, F_is_step⟩ := c.d.def_ 8 (d := d_is_step) rfl
  obtain ⟨fd_need_step, F_need_step⟩ := c.d.def_ 9 (d := d_need_step) rfl
  obtain ⟨fd_check_degree, F_check_degree⟩ := c.d.def_ 10 (d := d_check_degree) rfl
  obtain ⟨fd_common_degree, F_common_degree⟩ := c.d.def_ 11 (d := d_common_degree) rfl
  obtain ⟨fd_times_so, F_times_so⟩ := c.d.def_ 12 (d := d_times_so) rfl
  obtain ⟨fd_times, F_times⟩ := c.d.def_ 13 (d := d_times) rfl
  obtain ⟨fd_powers_of, F_powers_of⟩ := c.d.def_ 14 (d := d_powers_of) rfl
  obtain ⟨fd_all_powers, F_all_powers⟩ := c.d.def_ 15 (d := d_all_powers) rfl
  obtain ⟨fd_cleared, F_cleared⟩ := c.d.def_ 16 (d := d_cleared) rfl
  obtain ⟨fd_whole_numbers, F_whole_numbers⟩ := c.d.def_ 17 (d := d_whole_numbers) rfl
  obtain ⟨fd_eliminated, F_eliminated⟩ := c.d.def_ 18 (d := d_eliminated) rfl
  obtain ⟨fd_from_numbers, F_from_numbers⟩ := c.d.def_ 19 (d := d_from_numbers) rfl
  obtain ⟨fd_plain_poly, F_plain_poly⟩ := c.d.def_ 20 (d := d_plain_poly) rfl
  obtain ⟨fd_put_in, F_put_in⟩ := c.d.def_ 21 (d := d_put_in) rfl
  obtain ⟨fd_whole_so, F_whole_so⟩ := c.d.def_ 22 (d := d_whole_so) rfl
  obtain ⟨fd_are_joined, F_are_joined⟩ := c.d.def_ 23 (d := d_are_joined) rfl
  obtain ⟨fd_bar_places, F_bar_places⟩ := c.d.def_ 24 (d := d_bar_places) rfl
  obtain ⟨fd_number_of, F_number_of⟩ := c.d.def_ 25 (d := d_number_of) rfl
  obtain ⟨fd_as_step, F_as_step⟩ := c.d.def_ 26 (d := d_as_step) rfl
  obtain ⟨fd_constants, F_constants⟩ := c.d.def_ 27 (d := d_constants) rfl
  obtain ⟨fd_plus, F_plus⟩ := c.d.def_ 28 (d := d_plus) rfl
  obtain ⟨fd_divided, F_divided⟩ := c.d.def_ 29 (d := d_divided) rfl
  obtain ⟨fd_remainders, F_remainders⟩ := c.d.def_ 30 (d := d_remainders) rfl
  obtain ⟨fd_last_so, F_last_so⟩ := c.d.def_ 31 (d := d_last_so) rfl
  obtain ⟨fd_common_whole, F_common_whole⟩ := c.d.def_ 32 (d := d_common_whole) rfl
  obtain ⟨fd_is_rows_free, F_is_rows_free⟩ := c.d.def_ 33 (d := d_is_rows_free) rfl
  obtain ⟨fd_is_bar, F_is_bar⟩ := c.d.def_ 34 (d := d_is_bar) rfl
  obtain ⟨fd__law_named, F__law_named⟩ := c.d.def_ 35 (d := d__law_named) rfl
  obtain ⟨fd__law_divisor, F__law_divisor⟩ := c.d.def_ 36 (d := d__law_divisor) rfl
  obtain ⟨fd__law_mixed, F__law_mixed⟩ := c.d.def_ 37 (d := d__law_mixed) rfl
  obtain ⟨fd__law_draw, F__law_draw⟩ := c.d.def_ 38 (d := d__law_draw) rfl
  obtain ⟨fd__law_powers, F__law_powers⟩ := c.d.def_ 39 (d := d__law_powers) rfl
  obtain ⟨fd__law_of, F__law_of⟩ := c.d.def_ 40 (d := d__law_of) rfl
  obtain ⟨fd__law_frac, F__law_frac⟩ := c.d.def_ 41 (d := d__law_frac) rfl
  obtain ⟨fd__law_number, F__law_number⟩ := c.d.def_ 42 (d := d__law_number) rfl
  obtain ⟨fd__law_step, F__law_step⟩ := c.d.def_ 43 (d := d__law_step) rfl
  obtain ⟨fd__law_refused, F__law_refused⟩ := c.d.def_ 44 (d := d__law_refused) rfl
  obtain ⟨fd__law_too_great, F__law_too_great⟩ := c.d.def_ 45 (d := d__law_too_great) rfl
  obtain ⟨fd_law, F_law⟩ := c.d.def_ 46 (d := d_law) rfl
  have e := hfa.symm.trans (He.glo_ok X G (c.d.fact 61 (f := .glo "law") rfl))
  cases e
  have more := c.more
  unfold ex at more
  simp only [Bool.and_eq_true] at more
  obtain ⟨⟨⟨⟨⟨⟨⟨⟨⟨⟨⟨⟨⟨z0, z1⟩, z2⟩, z3⟩, z4⟩, z5⟩, z6⟩, z7⟩, z8⟩, z9⟩, z10⟩, z11⟩, z12⟩, z13⟩ := more
  have b := FunD.bindsA (ps := ["_law_script"]) F_law fun _ _ _ _ _ _ us hl => match us, hl with | [_], _ => rfl
  refine ⟨fd_law, tf.map (He.cT K), spLaw (C0 K) K m_law, fun p hp => ?_, fun p hp => ?_, fun p hp => ?_, fun s u => b s [u] rfl, fun H a ns hl hH hS => ?_, fun base hK hG tb => ?_⟩
  · obtain ⟨q, hq, rfl⟩ := List.mem_map.mp hp
    exact c.empty q hq
  · obtain ⟨q, hq, rfl⟩ := List.mem_map.mp hp
    exact c.out q hq
  · obtain ⟨q, hq, rfl⟩ := List.mem_map.mp hp
    exact PySem.W.codeHd_of_K X (c.hd q hq)
  · obtain ⟨g, hg⟩ := plain ns hl
    refine ⟨ns, a, g, rfl, hS, Nat.le_trans hl (by decide), fun p hp => ?_, hg, fun _ => rfl⟩
    have : ∃ q ∈ tf, p.1 = (He.cT K q).2 := by
      simp only [C0, tf, List.mem_cons, List.not_mem_nil, or_false] at hp ⊢
      rcases hp with rfl | rfl | rfl | rfl <;> simp
    obtain ⟨q, hq, e⟩ := this
    rw [e]
    exact LamX.TabS.nil (hH _ (List.mem_map_of_mem hq))
  · let T : Facts PROG w K mg base := {
      MOST_DEGREE := He.int_ok X G (c.d.fact 0 (f := .int "MOST_DEGREE" c_MOST_DEGREE) rfl)
      MOST_PART := He.int_ok X G (c.d.fact 1 (f := .int "MOST_PART" c_MOST_PART) rfl)
      MOST_WHOLE := He.int_ok X G (c.d.fact 2 (f := .int "MOST_WHOLE" c_MOST_WHOLE) rfl)
      bool := He.free_ok X G (c.d.fact 3 (f := .free "bool") rfl)
      enumerate := He.free_ok X G (c.d.fact 4 (f := .free "enumerate") rfl)
      gcd := PySem.W.mg_of X G (of_decide_eq_true z12)
      int := He.free_ok X G (c.d.fact 5 (f := .free "int") rfl)
      isinstance := He.free_ok X G (c.d.fact 6 (f := .free "isinstance") rfl)
      len := He.free_ok X G (c.d.fact 7 (f := .free "len") rfl)
      list := He.free_ok X G (c.d.fact 8 (f := .free "list") rfl)
      max := He.free_ok X G (c.d.fact 9 (f := .free "max") rfl)
      range := He.free_ok X G (c.d.fact 10 (f := .free "range") rfl)
      repr := He.free_ok X G (c.d.fact 11 (f := .free "repr") rfl)
      reversed := He.free_ok X G (c.d.fact 12 (f := .free "reversed") rfl)
      tuple := He.free_ok X G (c.d.fact 13 (f := .free "tuple") rfl)
      zip := He.free_ok X G (c.d.fact 14 (f := .free "zip") rfl)
      a__law_begin := He.ga K "_law_begin"
      fd__law_begin := fd__law_begin
      F__law_begin := F__law_begin
      g__law_begin := He.glo_ok X G (c.d.fact 15 (f := .glo "_law_begin") rfl)
      k__law_begin := F__law_begin.kp
      a__law_like := He.ga K "_law_like"
      fd__law_like := fd__law_like
      F__law_like := F__law_like
      g__law_like := He.glo_ok X G (c.d.fact 16 (f := .glo "_law_like") rfl)
      k__law_like := F__law_like.kp
      a__law_power := He.ga K "_law_power"
      fd__law_power := fd__law_power
      F__law_power := F__law_power
      g__law_power := He.glo_ok X G (c.d.fact 17 (f := .glo "_law_power") rfl)
      k__law_power := F__law_power.kp
      a__law_refusal := He.ga K "_law_refusal"
      fd__law_refusal := fd__law_refusal
      F__law_refusal := F__law_refusal
      g__law_refusal := He.glo_ok X G (c.d.fact 18 (f := .glo "_law_refusal") rfl)
      k__law_refusal := F__law_refusal.kp
      a_reduced := He.ga K "reduced"
      fd_reduced := fd_reduced
      F_reduced := F_reduced
      g_reduced := He.glo_ok X G (c.d.fact 19 (f := .glo "reduced") rfl)
      k_reduced := F_reduced.kp
      a_as_poly := He.ga K "as_poly"
      fd_as_poly := fd_as_poly
      F_as_poly := F_as_poly
      g_as_poly := He.glo_ok X G (c.d.fact 20 (f := .glo "as_poly") rfl)
      k_as_poly := F_as_poly.kp
      a_is_from := He.ga K "is_from"
      fd_is_from := fd_is_from
      F_is_from := F_is_from
      g_is_from := He.glo_ok X G (c.d.fact 21 (f := .glo "is_from") rfl)
      k_is_from := F_is_from.kp
      a_is_number := He.ga K "is_number"
      fd_is_number := fd_is_number
      F_is_number := F_is_number
      g_is_number := He.glo_ok X G (c.d.fact 22 (f := .glo "is_number") rfl)
      k_is_number := F_is_number.kp
      a_is_step := He.ga K "is_step"
      fd_is_step := fd_is_step
      F_is_step := F_is_step
      g_is_step := He.glo_ok X G (c.d.fact 23 (f := .glo "is_step") rfl)
      k_is_step := F_is_step.kp
      a_need_step := He.ga K "need_step"
      fd_need_step := fd_need_step
      F_need_step := F_need_step
      g_need_step := He.glo_ok X G (c.d.fact 24 (f := .glo "need_step") rfl)
      k_need_step := F_need_step.kp
      a_check_degree := He.ga K "check_degree"
      fd_check_degree := fd_check_degree
      F_check_degree := F_check_degree
      g_check_degree := He.glo_ok X G (c.d.fact 25 (f := .glo "check_degree") rfl)
      k_check_degree := F_check_degree.kp
      a_common_degree := He.ga K "common_degree"
      fd_common_degree := fd_common_degree
      F_common_degree := F_common_degree
      g_common_degree := He.glo_ok X G (c.d.fact 26 (f := .glo "common_degree") rfl)
      k_common_degree := F_common_degree.kp
      a_times_so := He.ga K "times_so"
      fd_times_so := fd_times_so
      F_times_so := F_times_so
      g_times_so := He.glo_ok X G (c.d.fact 27 (f := .glo "times_so") rfl)
      k_times_so := F_times_so.kp
      a_times := He.ga K "times"
      fd_times := fd_times
      F_times := F_times
      g_times := He.glo_ok X G (c.d.fact 28 (f := .glo "times") rfl)
      k_times := F_times.kp
      a_powers_of := He.ga K "powers_of"
      fd_powers_of := fd_powers_of
      F_powers_of := F_powers_of
      g_powers_of := He.glo_ok X G (c.d.fact 29 (f := .glo "powers_of") rfl)
      k_powers_of := F_powers_of.kp
      a_all_powers := He.ga K "all_powers"
      fd_all_powers := fd_all_powers
      F_all_powers := F_all_powers
      g_all_powers := He.glo_ok X G (c.d.fact 30 (f := .glo "all_powers") rfl)
      k_all_powers := F_all_powers.kp
      a_cleared := He.ga K "cleared"
      fd_cleared := fd_cleared
      F_cleared := F_cleared
      g_cleared := He.glo_ok X G (c.d.fact 31 (f := .glo "cleared") rfl)
      k_cleared := F_cleared.kp
      a_whole_numbers := He.ga K "whole_numbers"
      fd_whole_numbers := fd_whole_numbers
      F_whole_numbers := F_whole_numbers
      g_whole_numbers := He.glo_ok X G (c.d.fact 32 (f := .glo "whole_numbers") rfl)
      k_whole_numbers := F_whole_numbers.kp
      a_eliminated := He.ga K "eliminated"
      fd_eliminated := fd_eliminated
      F_eliminated := F_eliminated
      g_eliminated := He.glo_ok X G (c.d.fact 33 (f := .glo "eliminated") rfl)
      k_eliminated := F_eliminated.kp
      a_from_numbers := He.ga K "from_numbers"
      fd_from_numbers := fd_from_numbers
      F_from_numbers := F_from_numbers
      g_from_numbers := He.glo_ok X G (c.d.fact 34 (f := .glo "from_numbers") rfl)
      k_from_numbers := F_from_numbers.kp
      a_plain_poly := He.ga K "plain_poly"
      fd_plain_poly := fd_plain_poly
      F_plain_poly := F_plain_poly
      g_plain_poly := He.glo_ok X G (c.d.fact 35 (f := .glo "plain_poly") rfl)
      k_plain_poly := F_plain_poly.kp
      a_put_in := He.ga K "put_in"
      fd_put_in := fd_put_in
      F_put_in := F_put_in
      g_put_in := He.glo_ok X G (c.d.fact 36 (f := .glo "put_in") rfl)
      k_put_in := F_put_in.kp
      a_whole_so := He.ga K "whole_so"
      fd_whole_so := fd_whole_so
      F_whole_so := F_whole_so
      g_whole_so := He.glo_ok X G (c.d.fact 37 (f := .glo "whole_so") rfl)
      k_whole_so := F_whole_so.kp
      a_are_joined := He.ga K "are_joined"
      fd_are_joined := fd_are_joined
      F_are_joined := F_are_joined
      g_are_joined := He.glo_ok X G (c.d.fact 38 (f := .glo "are_joined") rfl)
      k_are_joined := F_are_joined.kp
      a_bar_places := He.ga K "bar_places"
      fd_bar_places := fd_bar_places
      F_bar_places := F_bar_places
      g_bar_places := He.glo_ok X G (c.d.fact 39 (f := .glo "bar_places") rfl)
      k_bar_places := F_bar_places.kp
      a_number_of := He.ga K "number_of"
      fd_number_of := fd_number_of
      F_number_of := F_number_of
      g_number_of := He.glo_ok X G (c.d.fact 40 (f := .glo "number_of") rfl)
      k_number_of := F_number_of.kp
      a_as_step := He.ga K "as_step"
      fd_as_step := fd_as_step
      F_as_step := F_as_step
      g_as_step := He.glo_ok X G (c.d.fact 41 (f := .glo "as_step") rfl)
      k_as_step := F_as_step.kp
      a_constants := He.ga K "constants"
      fd_constants := fd_constants
      F_constants := F_constants
      g_constants := He.glo_ok X G (c.d.fact 42 (f := .glo "constants") rfl)
      k_constants := F_constants.kp
      a_plus := He.ga K "plus"
      fd_plus := fd_plus
      F_plus := F_plus
      g_plus := He.glo_ok X G (c.d.fact 43 (f := .glo "plus") rfl)
      k_plus := F_plus.kp
      a_divided := He.ga K "divided"
      fd_divided := fd_divided
      F_divided := F_divided
      g_divided := He.glo_ok X G (c.d.fact 44 (f := .glo "divided") rfl)
      k_divided := F_divided.kp
      a_remainders := He.ga K "remainders"
      fd_remainders := fd_remainders
      F_remainders := F_remainders
      g_remainders := He.glo_ok X G (c.d.fact 45 (f := .glo "remainders") rfl)
      k_remainders := F_remainders.kp
      a_last_so := He.ga K "last_so"
      fd_last_so := fd_last_so
      F_last_so := F_last_so
      g_last_so := He.glo_ok X G (c.d.fact 46 (f := .glo "last_so") rfl)
      k_last_so := F_last_so.kp
      a_common_whole := He.ga K "common_whole"
      fd_common_whole := fd_common_whole
      F_common_whole := F_common_whole
      g_common_whole := He.glo_ok X G (c.d.fact 47 (f := .glo "common_whole") rfl)
      k_common_whole := F_common_whole.kp
      a_is_rows_free := He.ga K "is_rows_free"
      fd_is_rows_free := fd_is_rows_free
      F_is_rows_free := F_is_rows_free
      g_is_rows_free := He.glo_ok X G (c.d.fact 48 (f := .glo "is_rows_free") rfl)
      k_is_rows_free := F_is_rows_free.kp
      a_is_bar := He.ga K "is_bar"
      fd_is_bar := fd_is_bar
      F_is_bar := F_is_bar
      g_is_bar := He.glo_ok X G (c.d.fact 49 (f := .glo "is_bar") rfl)
      k_is_bar := F_is_bar.kp
      a__law_named := He.ga K "_law_named"
      fd__law_named := fd__law_named
      F__law_named := F__law_named
      g__law_named := He.glo_ok X G (c.d.fact 50 (f := .glo "_law_named") rfl)
      k__law_named := F__law_named.kp
      l__law_named := (He.cT K ("_law_named", none)).2
      tb__law_named := tb (He.cT K ("_law_named", none)) (List.mem_map_of_mem (List.Mem.head _))
      a__law_divisor := He.ga K "_law_divisor"
      fd__law_divisor := fd__law_divisor
      F__law_divisor := F__law_divisor
      g__law_divisor := He.glo_ok X G (c.d.fact 51 (f := .glo "_law_divisor") rfl)
      k__law_divisor := F__law_divisor.kp
      a__law_mixed := He.ga K "_law_mixed"
      fd__law_mixed := fd__law_mixed
      F__law_mixed := F__law_mixed
      g__law_mixed := He.glo_ok X G (c.d.fact 52 (f := .glo "_law_mixed") rfl)
      k__law_mixed := F__law_mixed.kp
      a__law_draw := He.ga K "_law_draw"
      fd__law_draw := fd__law_draw
      F__law_draw := F__law_draw
      g__law_draw := He.glo_ok X G (c.d.fact 53 (f := .glo "_law_draw") rfl)
      k__law_draw := F__law_draw.kp
      a__law_powers := He.ga K "_law_powers"
      fd__law_powers := fd__law_powers
      F__law_powers := F__law_powers
      g__law_powers := He.glo_ok X G (c.d.fact 54 (f := .glo "_law_powers") rfl)
      k__law_powers := F__law_powers.kp
      l__law_powers := (He.cT K ("_law_powers", none)).2
      tb__law_powers := tb (He.cT K ("_law_powers", none)) (List.mem_map_of_mem (List.Mem.tail _ (List.Mem.head _)))
      a__law_of := He.ga K "_law_of"
      fd__law_of := fd__law_of
      F__law_of := F__law_of
      g__law_of := He.glo_ok X G (c.d.fact 55 (f := .glo "_law_of") rfl)
      k__law_of := F__law_of.kp
      a__law_frac := He.ga K "_law_frac"
      fd__law_frac := fd__law_frac
      F__law_frac := F__law_frac
      g__law_frac := He.glo_ok X G (c.d.fact 56 (f := .glo "_law_frac") rfl)
      k__law_frac := F__law_frac.kp
      a__law_number := He.ga K "_law_number"
      fd__law_number := fd__law_number
      F__law_number := F__law_number
      g__law_number := He.glo_ok X G (c.d.fact 57 (f := .glo "_law_number") rfl)
      k__law_number := F__law_number.kp
      a__law_step := He.ga K "_law_step"
      fd__law_step := fd__law_step
      F__law_step := F__law_step
      g__law_step := He.glo_ok X G (c.d.fact 58 (f := .glo "_law_step") rfl)
      k__law_step := F__law_step.kp
      a__law_refused := He.ga K "_law_refused"
      fd__law_refused := fd__law_refused
      F__law_refused := F__law_refused
      g__law_refused := He.glo_ok X G (c.d.fact 59 (f := .glo "_law_refused") rfl)
      k__law_refused := F__law_refused.kp
      l__law_refused := (He.cT K ("_law_refused", none)).2
      tb__law_refused := tb (He.cT K ("_law_refused", none)) (List.mem_map_of_mem (List.Mem.tail _ (List.Mem.tail _ (List.Mem.head _))))
      a__law_too_great := He.ga K "_law_too_great"
      fd__law_too_great := fd__law_too_great
      F__law_too_great := F__law_too_great
      g__law_too_great := He.glo_ok X G (c.d.fact 60 (f := .glo "_law_too_great") rfl)
      k__law_too_great := F__law_too_great.kp
      l__law_too_great := (He.cT K ("_law_too_great", none)).2
      tb__law_too_great := tb (He.cT K ("_law_too_great", none)) (List.mem_map_of_mem (List.Mem.tail _ (List.Mem.tail _ (List.Mem.tail _ (List.Mem.head _)))))
      a_law := He.ga K "law"
      fd_law := fd_law
      F_law := F_law
      g_law := He.glo_ok X G (c.d.fact 61 (f := .glo "law") rfl)
      k_law := F_law.kp
      tabsN := of_decide_eq_true z13
      a_StepError := He.ga K "StepError"
      g_StepError := He.glo_ok X G (c.d.fact 62 (f := .glo "StepError") rfl)
      a_BadNumber := He.ga K "BadNumber"
      g_BadNumber := He.glo_ok X G (c.d.fact 63 (f := .glo "BadNumber") rfl)
      a_BadStep := He.ga K "BadStep"
      g_BadStep := He.glo_ok X G (c.d.fact 64 (f := .glo "BadStep") rfl)
      a_BadRow := He.ga K "BadRow"
      g_BadRow := He.glo_ok X G (c.d.fact 65 (f := .glo "BadRow") rfl)
      a_BadParameter := He.ga K "BadParameter"
      g_BadParameter := He.glo_ok X G (c.d.fact 66 (f := .glo "BadParameter") rfl)
      a_NoRow := He.ga K "NoRow"
      g_NoRow := He.glo_ok X G (c.d.fact 67 (f := .glo "NoRow") rfl)
      a_TooGreat := He.ga K "TooGreat"
      g_TooGreat := He.glo_ok X G (c.d.fact 68 (f := .glo "TooGreat") rfl)
      i_BadStep := He.fAd K ("BadStep", some "__init__")
      x_BadStep := mkx_BadStep (map_at c.ini j_BadStep (List.Mem.head _)) z7 (of_decide_eq_true z10)
      i_NoRow := He.fAd K ("NoRow", some "__init__")
      x_NoRow := mkx_NoRow (map_at c.ini j_NoRow (List.Mem.tail _ (List.Mem.head _))) z8
      i_TooGreat := He.fAd K ("TooGreat", some "__init__")
      x_TooGreat := mkx_TooGreat (map_at c.ini j_TooGreat (List.Mem.tail _ (List.Mem.tail _ (List.Mem.head _)))) z9 (of_decide_eq_true z11)
      xf_StepError := xfB_ok z0
      no_StepError_most := He.noat_ok (c.d.fact 69 (f := .noat "StepError" "most") rfl)
      no_StepError_place := He.noat_ok (c.d.fact 70 (f := .noat "StepError" "place") rfl)
      no_StepError_value := He.noat_ok (c.d.fact 71 (f := .noat "StepError" "value") rfl)
      m_StepError_BadNumber := He.exm_ok (c.d.fact 72 (f := .exm "StepError" "BadNumber" false) rfl)
      m_StepError_BadParameter := He.exm_ok (c.d.fact 73 (f := .exm "StepError" "BadParameter" false) rfl)
      m_StepError_BadRow := He.exm_ok (c.d.fact 74 (f := .exm "StepError" "BadRow" false) rfl)
      m_StepError_BadStep := He.exm_ok (c.d.fact 75 (f := .exm "StepError" "BadStep" false) rfl)
      m_StepError_NoRow := He.exm_ok (c.d.fact 76 (f := .exm "StepError" "NoRow" false) rfl)
      m_StepError_StepError := He.exm_ok (c.d.fact 77 (f := .exm "StepError" "StepError" true) rfl)
      m_StepError_TooGreat := He.exm_ok (c.d.fact 78 (f := .exm "StepError" "TooGreat" false) rfl)
      xf_BadNumber := xfB_ok z1
      no_BadNumber_most := He.noat_ok (c.d.fact 79 (f := .noat "BadNumber" "most") rfl)
      no_BadNumber_place := He.noat_ok (c.d.fact 80 (f := .noat "BadNumber" "place") rfl)
      no_BadNumber_value := He.noat_ok (c.d.fact 81 (f := .noat "BadNumber" "value") rfl)
      m_BadNumber_BadNumber := He.exm_ok (c.d.fact 82 (f := .exm "BadNumber" "BadNumber" true) rfl)
      m_BadNumber_BadParameter := He.exm_ok (c.d.fact 83 (f := .exm "BadNumber" "BadParameter" false) rfl)
      m_BadNumber_BadRow := He.exm_ok (c.d.fact 84 (f := .exm "BadNumber" "BadRow" false) rfl)
      m_BadNumber_BadStep := He.exm_ok (c.d.fact 85 (f := .exm "BadNumber" "BadStep" false) rfl)
      m_BadNumber_NoRow := He.exm_ok (c.d.fact 86 (f := .exm "BadNumber" "NoRow" false) rfl)
      m_BadNumber_StepError := He.exm_ok (c.d.fact 87 (f := .exm "BadNumber" "StepError" true) rfl)
      m_BadNumber_TooGreat := He.exm_ok (c.d.fact 88 (f := .exm "BadNumber" "TooGreat" false) rfl)
      xf_BadStep := xfB_ok z2
      no_BadStep_most := He.noat_ok (c.d.fact 89 (f := .noat "BadStep" "most") rfl)
      no_BadStep_place := He.noat_ok (c.d.fact 90 (f := .noat "BadStep" "place") rfl)
      no_BadStep_value := He.noat_ok (c.d.fact 91 (f := .noat "BadStep" "value") rfl)
      m_BadStep_BadNumber := He.exm_ok (c.d.fact 92 (f := .exm "BadStep" "BadNumber" false) rfl)
      m_BadStep_BadParameter := He.exm_ok (c.d.fact 93 (f := .exm "BadStep" "BadParameter" false) rfl)
      m_BadStep_BadRow := He.exm_ok (c.d.fact 94 (f := .exm "BadStep" "BadRow" false) rfl)
      m_BadStep_BadStep := He.exm_ok (c.d.fact 95 (f := .exm "BadStep" "BadStep" true) rfl)
      m_BadStep_NoRow := He.exm_ok (c.d.fact 96 (f := .exm "BadStep" "NoRow" false) rfl)
      m_BadStep_StepError := He.exm_ok (c.d.fact 97 (f := .exm "BadStep" "StepError" true) rfl)
      m_BadStep_TooGreat := He.exm_ok (c.d.fact 98 (f := .exm "BadStep" "TooGreat" false) rfl)
      xf_BadRow := xfB_ok z3
      no_BadRow_most := He.noat_ok (c.d.fact 99 (f := .noat "BadRow" "most") rfl)
      no_BadRow_place := He.noat_ok (c.d.fact 100 (f := .noat "BadRow" "place") rfl)
      no_BadRow_value := He.noat_ok (c.d.fact 101 (f := .noat "BadRow" "value") rfl)
      m_BadRow_BadNumber := He.exm_ok (c.d.fact 102 (f := .exm "BadRow" "BadNumber" false) rfl)
      m_BadRow_BadParameter := He.exm_ok (c.d.fact 103 (f := .exm "BadRow" "BadParameter" false) rfl)
      m_BadRow_BadRow := He.exm_ok (c.d.fact 104 (f := .exm "BadRow" "BadRow" true) rfl)
      m_BadRow_BadStep := He.exm_ok (c.d.fact 105 (f := .exm "BadRow" "BadStep" false) rfl)
      m_BadRow_NoRow := He.exm_ok (c.d.fact 106 (f := .exm "BadRow" "NoRow" false) rfl)
      m_BadRow_StepError := He.exm_ok (c.d.fact 107 (f := .exm "BadRow" "StepError" true) rfl)
      m_BadRow_TooGreat := He.exm_ok (c.d.fact 108 (f := .exm "BadRow" "TooGreat" false) rfl)
      xf_BadParameter := xfB_ok z4
      no_BadParameter_most := He.noat_ok (c.d.fact 109 (f := .noat "BadParameter" "most") rfl)
      no_BadParameter_place := He.noat_ok (c.d.fact 110 (f := .noat "BadParameter" "place") rfl)
      no_BadParameter_value := He.noat_ok (c.d.fact 111 (f := .noat "BadParameter" "value") rfl)
      m_BadParameter_BadNumber := He.exm_ok (c.d.fact 112 (f := .exm "BadParameter" "BadNumber" false) rfl)
      m_BadParameter_BadParameter := He.exm_ok (c.d.fact 113 (f := .exm "BadParameter" "BadParameter" true) rfl)
      m_BadParameter_BadRow := He.exm_ok (c.d.fact 114 (f := .exm "BadParameter" "BadRow" false) rfl)
      m_BadParameter_BadStep := He.exm_ok (c.d.fact 115 (f := .exm "BadParameter" "BadStep" false) rfl)
      m_BadParameter_NoRow := He.exm_ok (c.d.fact 116 (f := .exm "BadParameter" "NoRow" false) rfl)
      m_BadParameter_StepError := He.exm_ok (c.d.fact 117 (f := .exm "BadParameter" "StepError" true) rfl)
      m_BadParameter_TooGreat := He.exm_ok (c.d.fact 118 (f := .exm "BadParameter" "TooGreat" false) rfl)
      xf_NoRow := xfB_ok z5
      no_NoRow_most := He.noat_ok (c.d.fact 119 (f := .noat "NoRow" "most") rfl)
      no_NoRow_place := He.noat_ok (c.d.fact 120 (f := .noat "NoRow" "place") rfl)
      no_NoRow_value := He.noat_ok (c.d.fact 121 (f := .noat "NoRow" "value") rfl)
      m_NoRow_BadNumber := He.exm_ok (c.d.fact 122 (f := .exm "NoRow" "BadNumber" false) rfl)
      m_NoRow_BadParameter := He.exm_ok (c.d.fact 123 (f := .exm "NoRow" "BadParameter" false) rfl)
      m_NoRow_BadRow := He.exm_ok (c.d.fact 124 (f := .exm "NoRow" "BadRow" false) rfl)
      m_NoRow_BadStep := He.exm_ok (c.d.fact 125 (f := .exm "NoRow" "BadStep" false) rfl)
      m_NoRow_NoRow := He.exm_ok (c.d.fact 126 (f := .exm "NoRow" "NoRow" true) rfl)
      m_NoRow_StepError := He.exm_ok (c.d.fact 127 (f := .exm "NoRow" "StepError" true) rfl)
      m_NoRow_TooGreat := He.exm_ok (c.d.fact 128 (f := .exm "NoRow" "TooGreat" false) rfl)
      xf_TooGreat := xfB_ok z6
      no_TooGreat_most := He.noat_ok (c.d.fact 129 (f := .noat "TooGreat" "most") rfl)
      no_TooGreat_place := He.noat_ok (c.d.fact 130 (f := .noat "TooGreat" "place") rfl)
      no_TooGreat_value := He.noat_ok (c.d.fact 131 (f := .noat "TooGreat" "value") rfl)
      m_TooGreat_BadNumber := He.exm_ok (c.d.fact 132 (f := .exm "TooGreat" "BadNumber" false) rfl)
      m_TooGreat_BadParameter := He.exm_ok (c.d.fact 133 (f := .exm "TooGreat" "BadParameter" false) rfl)
      m_TooGreat_BadRow := He.exm_ok (c.d.fact 134 (f := .exm "TooGreat" "BadRow" false) rfl)
      m_TooGreat_BadStep := He.exm_ok (c.d.fact 135 (f := .exm "TooGreat" "BadStep" false) rfl)
      m_TooGreat_NoRow := He.exm_ok (c.d.fact 136 (f := .exm "TooGreat" "NoRow" false) rfl)
      m_TooGreat_StepError := He.exm_ok (c.d.fact 137 (f := .exm "TooGreat" "StepError" true) rfl)
      m_TooGreat_TooGreat := He.exm_ok (c.d.fact 138 (f := .exm "TooGreat" "TooGreat" true) rfl) }
    have hC : OkC T (C0 K) := ⟨rfl, by funext j; match j with | 0 => rfl | 1 => rfl | 2 => rfl | 3 => rfl | _ + 4 => rfl, rfl, by funext j; match j with | 0 => rfl | 1 => rfl | 2 => rfl | 3 => rfl | 4 => rfl | 5 => rfl | 6 => rfl | _ + 7 => rfl, rfl⟩
    exact (g_law T hC rfl rfl).mono (by decide)
end K51

set_option Elab.async false
set_option linter.all false
set_option maxRecDepth 100000
set_option maxHeartbeats 0
open PySem PySem.W PySem.Calls PyProof.Rows
theorem PySem.Challenge.cw_stepswithin_k51_whole_bounds_of_common_w_holds : PySem.Challenge.rw_stepswithin_k51_whole_bounds_of_common_w.Holds := by
  w_on; o_law
  refine HandSHeadRun.head_imp (r := OpenLaw.row PySem.Challenge.rw_stepswithin_k51_whole_bounds_of_common_w) (q := view (OpenLaw.row PySem.Challenge.rw_stepswithin_k51_whole_bounds_of_common_w).prog [0, 63]) (H := K51.hk) (ob := K51.ob) (M := 4000) (loose := K51.loose) (d := HandSHeadRun.topDef (OpenLaw.row PySem.Challenge.rw_stepswithin_k51_whole_bounds_of_common_w).prog 63) (kwd := []) K51.ob_eq K51.run
    (by kernel_rfl) (by kernel_rfl) (by kernel_rfl) (by rfl) (by first | assumption | decide +kernel) (by decide +kernel) ⟨rfl, rfl, rfl, rfl, rfl, by decide +kernel⟩ ?hw ?hc
  case hw => w_witness2
  case hc =>
    refine Sx.walk_G (l := PySem.Challenge.rw_stepswithin_k51_whole_bounds_of_common_w) (n := 63) (k := 200) (x := "_law_script") rfl (by decide) (by kernel_rfl) ⟨rfl, by decide, by decide⟩ ?F
    intro w mg fa h Y G hmg0
    obtain ⟨K, KX, c⟩ := Y
    have hmg : mg ("law" : PySem.Str) = some (.ref fa) := by
      have e : (HandSHeadRun.topDef (OpenLaw.row PySem.Challenge.rw_stepswithin_k51_whole_bounds_of_common_w).prog 63).name = ("law" : PySem.Str) := by kernel_rfl
      rw [← e]
      exact hmg0
    exact ⟨K, KX, K51.facts KX G hmg c K51.plain⟩

