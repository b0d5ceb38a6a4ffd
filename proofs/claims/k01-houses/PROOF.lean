import PyProof.Rows.All
import Wide.All
import OpenK.AllK
import Wide.FinOn
import PySem.Challenge.RW_hearsay_k01_houses
import HandS.ForMost
import HandS.ForExc
import HandS.IsInst
import HandS.Wide
import HandS.TupAny
import HandS.TupMul
import HandS.Deep
import HandS.SetTxt0
import HandS.SetFor
import PyProof.Rows.SortShellAny
import PyProof.StrBlock2
import KE.GoesMore
import HandS.Iter
import KE.KExcSuper
import HandS.Exc
import HandS.ExcInit
import HandS.ExcOwn
import HandS.WordsExc
import HandS.ExcIs
import HandS.ExcField
import HandS.TryMany
import HandS.TryOnly
import KE.KExcIs
import KE.KSuper
import HandS.HeadHook1
import HandS.HeadHook2
import HandS.Ends
import HandS.Defaults
import KE.KStateDown
import HandS.More
import HandS.Head0
import HandS.Head1
import HandS.Head2
import HandS.HeadEnd
import HandS.EndBits
set_option Elab.async false
set_option linter.all false
section
set_option autoImplicit false
/-! A small deterministic semantics: data trees, a store of mutable objects, combinators for expressions, tests, statements. Plain Lean. -/
namespace Py
inductive D where
  | non | bl (b : Bool) | int (i : Int) | str (s : List Char) | tup (ds : List D) | ref (r : Nat) | adr (a : Nat)
deriving Inhabited
/-- a mutable object: a list; a list that is only read -/
inductive O where
  | lst (xs : List D) | frz (xs : List D) | xd (fs : List (String × D)) | xda (b : Nat) (fs : List (String × D))
deriving Inhabited
abbrev G := List O
structure Exc where
  cls : String
  at_ : Option Nat
inductive R (α : Type) where
  | ok (a : α) (g : G) | exc (e : Exc) (g : G) | bad
def R.bind {α β : Type} (r : R α) (f : α → G → R β) : R β :=
  match r with | .ok a g => f a g | .exc e g => .exc e g | .bad => .bad
def ofO {α : Type} (o : Option (α × G)) : R α := match o with | some (a, g) => .ok a g | none => .bad
def ofP {α : Type} (o : Option α) (g : G) : R α := match o with | some a => .ok a g | none => .bad
abbrev Env := List (Option D)
abbrev M := Env → G → R D
abbrev T := Env → G → R Bool
abbrev A := Env → G → R (List D)
abbrev F := List D → G → R D
inductive SR where
  | next (ρ : Env) (g : G) | ret (d : D) (g : G) | brk (ρ : Env) (g : G) | cont (ρ : Env) (g : G) | exc (e : Exc) (ρ : Env) (g : G) | bad
abbrev S := Env → G → SR

abbrev LINE : Nat := 16777216

@[simp] theorem R.bind_ok {α β : Type} (a : α) (g : G) (f : α → G → R β) : (R.ok a g).bind f = f a g := rfl
@[simp] theorem R.bind_exc {α β : Type} (e : Exc) (g : G) (f : α → G → R β) : (R.exc e g).bind f = R.exc e g := rfl
@[simp] theorem R.bind_bad {α β : Type} (f : α → G → R β) : (R.bad).bind f = R.bad := rfl
@[simp] theorem ofO_some {α : Type} (a : α) (g : G) : ofO (some (a, g)) = R.ok a g := rfl
@[simp] theorem ofO_none {α : Type} : ofO (none : Option (α × G)) = R.bad := rfl
@[simp] theorem ofP_some {α : Type} (a : α) (g : G) : ofP (some a) g = R.ok a g := rfl
@[simp] theorem ofP_none {α : Type} (g : G) : ofP (none : Option α) g = R.bad := rfl

/-! ### expressions -/
def mVar (i : Nat) : M := fun ρ g => match ρ[i]? with | some (some d) => .ok d g | _ => .bad
def mC (d : D) : M := fun _ g => .ok d g
/-- an operation on values: pure; or one that makes an object -/
abbrev B2 := D → D → G → Option D
abbrev B1 := D → G → Option D
abbrev N2 := D → D → G → Option (D × G)
abbrev N1 := D → G → Option (D × G)
def mOp (f : N2) (a b : M) : M := fun ρ g => (a ρ g).bind fun x g1 => (b ρ g1).bind fun y g2 => ofO (f x y g2)
def mUn (f : N1) (a : M) : M := fun ρ g => (a ρ g).bind fun x g1 => ofO (f x g1)
def p2 (f : B2) : N2 := fun x y g => (f x y g).map fun d => (d, g)
def p1 (f : B1) : N1 := fun x g => (f x g).map fun d => (d, g)
def mNil : A := fun _ g => .ok [] g
def mCons (a : M) (as : A) : A := fun ρ g => (a ρ g).bind fun x g1 => (as ρ g1).bind fun xs g2 => .ok (x :: xs) g2
def mTup (as : A) : M := fun ρ g => (as ρ g).bind fun xs g1 => if xs.length ≤ LINE then .ok (.tup xs) g1 else .bad
def newL (xs : List D) (g : G) : D × G := (.ref g.length, g ++ [.lst xs])
def mLst (as : A) : M := fun ρ g => (as ρ g).bind fun xs g1 => if xs.length ≤ LINE then .ok (.ref g1.length) (g1 ++ [.lst xs]) else .bad
def mCall (f : F) (as : A) : M := fun ρ g => (as ρ g).bind fun xs g1 => f xs g1
def mIf (t : T) (a b : M) : M := fun ρ g => (t ρ g).bind fun c g1 => if c then a ρ g1 else b ρ g1
def asB (d : D) : Option Bool := match d with | .bl c => some c | _ => none
def mAnd (a b : M) : M := fun ρ g => (a ρ g).bind fun x g1 => (ofP (asB x) g1).bind fun c g2 => if c then b ρ g2 else .ok (.bl false) g2
def mOr (a b : M) : M := fun ρ g => (a ρ g).bind fun x g1 => (ofP (asB x) g1).bind fun c g2 => if c then .ok (.bl true) g2 else b ρ g2
def mNot (a : M) : M := fun ρ g => (a ρ g).bind fun x g1 => (ofP (asB x) g1).bind fun c g2 => .ok (.bl (!c)) g2
/-- a comparison of three: a op b op' c -/
def mChain (f f' : B2) (a b c : M) : M := fun ρ g => (a ρ g).bind fun x g1 => (b ρ g1).bind fun y g2 => (ofP (f x y g2) g2).bind fun z g3 =>
  (ofP (asB z) g3).bind fun k g4 => if k then (c ρ g4).bind fun w g5 => ofP (f' y w g5) g5 else .ok (.bl false) g4
/-! ### tests -/
def tVal (a : M) : T := fun ρ g => (a ρ g).bind fun x g1 => ofP (asB x) g1
def truth (d : D) (g : G) : Option Bool := match d with
  | .non => some false
  | .bl b => some b
  | .int i => some (i != 0)
  | .str s => if s.length ≤ LINE then some (s.length != 0) else none
  | .tup ds => some (!ds.isEmpty)
  | .adr _ => none
  | .ref r => match g[r]? with | some (.lst xs) => some (!xs.isEmpty) | some (.frz xs) => some (!xs.isEmpty) | _ => none
def tTru (a : M) : T := fun ρ g => (a ρ g).bind fun x g1 => ofP (truth x g1) g1
def tAnd (a b : T) : T := fun ρ g => (a ρ g).bind fun c g1 => if c then b ρ g1 else .ok false g1
def tOr (a b : T) : T := fun ρ g => (a ρ g).bind fun c g1 => if c then .ok true g1 else b ρ g1
def tNot (a : T) : T := fun ρ g => (a ρ g).bind fun c g1 => .ok (!c) g1
def tYes : T := fun _ g => .ok true g

/-! ### values as sequences, as data -/
def seqOf (d : D) (g : G) : Option (List D) := match d with
  | .tup ds => some ds
  | .ref r => match g[r]? with | some (.lst xs) => some xs | some (.frz xs) => some xs | _ => none
  | _ => none
def lstOf (d : D) (g : G) : Option (List D) := match d with
  | .ref r => match g[r]? with | some (.lst xs) => some xs | some (.frz xs) => some xs | _ => none
  | _ => none
/-- a list that may be written: its place and items -/
def mutOf (d : D) (g : G) : Option (Nat × List D) := match d with
  | .ref r => match g[r]? with | some (.lst xs) => some (r, xs) | _ => none
  | _ => none
/-- data: a value with its lists opened -/
inductive P where
  | non | bl (b : Bool) | int (i : Int) | str (s : List Char) | tup (ds : List P) | lst (ds : List P)
deriving Inhabited
def viewL (f : D → Option P) : List D → Option (List P)
  | [] => some []
  | d :: r => match f d, viewL f r with | some p, some ps => some (p :: ps) | _, _ => none
/-- nested to a depth of n -/
def view (g : G) : Nat → D → Option P
  | _, .non => some .non
  | _, .bl b => some (.bl b)
  | _, .int i => some (.int i)
  | _, .str s => some (.str s)
  | _, .adr _ => none
  | 0, .tup _ => none
  | 0, .ref _ => none
  | n + 1, .tup ds => (viewL (view g n) ds).map .tup
  | n + 1, .ref r => match lstOf (.ref r) g with | some xs => (viewL (view g n) xs).map .lst | none => none
def b2i (b : Bool) : Int := if b then 1 else 0
mutual
/-- Python's == of data -/
def P.eqv : P → P → Bool
  | .non, .non => true
  | .bl a, .bl b => a == b
  | .bl a, .int j => b2i a == j
  | .int i, .bl b => i == b2i b
  | .int i, .int j => i == j
  | .str x, .str y => x == y
  | .lst xs, .lst ys => P.eqvs xs ys
  | .tup xs, .tup ys => P.eqvs xs ys
  | _, _ => false
def P.eqvs : List P → List P → Bool
  | [], [] => true
  | x :: xs, y :: ys => P.eqv x y && P.eqvs xs ys
  | _, _ => false
end
/-- == of values -/
def eqD (x y : D) (g : G) : Option Bool := match view g 60 x, view g 60 y with | some p, some q => some (P.eqv p q) | _, _ => none
/-- flat values: in by items -/
def flat : D → Bool
  | .non | .bl _ | .int _ | .str _ => true
  | _ => false
def eqF : D → D → Bool
  | .non, .non => true
  | .bl a, .bl b => a == b
  | .bl a, .int b => b2i a == b
  | .int a, .bl b => a == b2i b
  | .int a, .int b => a == b
  | .str a, .str b => a == b
  | _, _ => false

/-! ### operators -/
def mulOk (i j : Int) : Bool := decide (i.natAbs.log2 + j.natAbs.log2 < 100000000)
def powOk (i j : Int) : Bool := decide (0 ≤ j ∧ ((i.natAbs.log2 + 1 : Nat) : Int) * j ≤ 134217728)
def oAdd : N2 := fun x y g => match x, y with
  | .int i, .int j => some (.int (i + j), g)
  | .str s, .str t => if s.length + t.length ≤ LINE then some (.str (s ++ t), g) else none
  | .tup ds, .tup es => if ds.length + es.length ≤ LINE then some (.tup (ds ++ es), g) else none
  | .ref a, .ref b => match mutOf (.ref a) g, mutOf (.ref b) g with
    | some (_, xs), some (_, ys) => if xs.length + ys.length ≤ LINE then some (newL (xs ++ ys) g) else none
    | _, _ => none
  | _, _ => none
def oSub : N2 := fun x y g => match x, y with | .int i, .int j => some (.int (i - j), g) | _, _ => none
def oMul : N2 := fun x y g => match x, y with
  | .int i, .int j => if mulOk i j then some (.int (i * j), g) else none
  | .str s, .int n => if 2 ≤ n ∧ n ≤ 1000 ∧ s.length ≤ 1000 then some (.str (List.replicate n.toNat s).flatten, g) else none
  | .tup ds, .int n => if 2 ≤ n ∧ n ≤ 1000 ∧ ds.length ≤ 1000 ∧ ds.length ≠ 0 then some (.tup (List.replicate n.toNat ds).flatten, g) else none
  | .ref a, .int n => match mutOf (.ref a) g with
    | some (_, xs) => if 0 ≤ n ∧ n ≤ 1000 ∧ xs.length * n.toNat ≤ LINE then some (newL (List.replicate n.toNat xs).flatten g) else none
    | none => none
  | _, _ => none
def oFdiv : N2 := fun x y g => match x, y with | .int i, .int j => if 0 < j ∧ j.natAbs.log2 < 9000 then some (.int (i / j), g) else none | _, _ => none
def oMod : N2 := fun x y g => match x, y with | .int i, .int j => if 0 < j then some (.int (i % j), g) else none | _, _ => none
def oPow : N2 := fun x y g => match x, y with | .int i, .int j => if powOk i j then some (.int (i ^ j.toNat), g) else none | _, _ => none
def oNeg : N1 := fun x g => match x with | .int i => some (.int (-i), g) | _ => none
def oEq : B2 := fun x y g => (eqD x y g).map .bl
def oNe : B2 := fun x y g => (eqD x y g).map fun b => .bl (!b)
def oLt : B2 := fun x y _ => match x, y with | .int i, .int j => some (.bl (decide (i < j))) | _, _ => none
def oLe : B2 := fun x y _ => match x, y with | .int i, .int j => some (.bl (decide (i ≤ j))) | _, _ => none
def oGt : B2 := fun x y _ => match x, y with | .int i, .int j => some (.bl (decide (j < i))) | _, _ => none
def oGe : B2 := fun x y _ => match x, y with | .int i, .int j => some (.bl (decide (j ≤ i))) | _, _ => none
def oIsN : B2 := fun x y _ => match x, y with | .non, .non => some (.bl true) | _, .non => some (.bl false) | _, _ => none
def oNotN : B2 := fun x y _ => match x, y with | .non, .non => some (.bl false) | _, .non => some (.bl true) | _, _ => none
/-- x in y -/
def inD (x y : D) (g : G) : Option Bool := match x, y with
  | .str [c], .str t => some (decide (c ∈ t))
  | x, .tup ds => if flat x && ds.all flat then some (ds.any fun y => eqF y x) else none
  | x, .ref r => match lstOf (.ref r) g with
    | some xs => match view g 60 x, viewL (view g 60) xs with
      | some p, some ps => some (ps.any fun q => P.eqv q p)
      | _, _ => none
    | none => none
  | _, _ => none
def oIn : B2 := fun x y g => (inD x y g).map .bl
def oNotIn : B2 := fun x y g => (inD x y g).map fun b => .bl (!b)
/-! ### places -/
def ix (n : Nat) (i : Int) : Option Nat := if 0 ≤ i then (if i < n then some i.toNat else none) else if -(n : Int) ≤ i then some (i + n).toNat else none
def atI {α : Type} (xs : List α) (i : Int) : Option α := (ix xs.length i).bind fun j => xs[j]?
def oIdx : B2 := fun x y g => match x, y with
  | .str s, .int i => if s.length ≤ LINE then (atI s i).map fun c => .str [c] else none
  | .tup ds, .int i => atI ds i
  | .ref r, .int i => (lstOf (.ref r) g).bind fun xs => atI xs i
  | _, _ => none
/-- a slice's bound as a place among n (d where it is left out) -/
def sIx (n d : Nat) : Option Int → Nat
  | none => d
  | some v => if v < 0 then (v + (n : Int)).toNat else min v.toNat n
def cut {α : Type} (xs : List α) (lo hi : Option Int) : List α := (xs.drop (sIx xs.length 0 lo)).take (sIx xs.length xs.length hi - sIx xs.length 0 lo)
def oSl (x : D) (lo hi : Option Int) (g : G) : Option (D × G) := match x with
  | .str s => if s.length ≤ LINE then some (.str (cut s lo hi), g) else none
  | .tup ds => some (.tup (cut ds lo hi), g)
  | .ref r => (lstOf (.ref r) g).map fun xs => newL (cut xs lo hi) g
  | _ => none
def asI (d : D) : Option Int := match d with | .int i => some i | _ => none
def mIx : Option M → Env → G → R (Option Int)
  | none => fun _ g => .ok none g
  | some m => fun ρ g => (m ρ g).bind fun d g1 => (ofP (asI d) g1).bind fun i g2 => .ok (some i) g2
def mSl (a : M) (lo hi : Option M) : M := fun ρ g => (a ρ g).bind fun x g1 => (mIx lo ρ g1).bind fun l g2 => (mIx hi ρ g2).bind fun h g3 => ofO (oSl x l h g3)
/-! ### built-ins -/
inductive Ty where | int | bool | str | tuple | list
deriving DecidableEq
def tyOf (d : D) (g : G) : Option (Option Ty) := match d with
  | .non => some none
  | .bl _ => some (some .bool)
  | .int _ => some (some .int)
  | .str _ => some (some .str)
  | .tup _ => some (some .tuple)
  | .adr _ => none
  | .ref r => match g[r]? with | some (.lst _) => some (some .list) | some (.frz _) => some (some .list) | _ => none
def isTy (t : Ty) : Option Ty → Bool
  | none => false
  | some u => u == t || (u == .bool && t == .int)
def oIsi (t : Ty) : B1 := fun x g => (tyOf x g).map fun u => .bl (isTy t u)
def oInt : B1 := fun x _ => match x with | .int i => some (.int i) | .bl b => some (.int (b2i b)) | _ => none
def lenD (d : D) (g : G) : Option Nat := match d with
  | .str s => if s.length ≤ LINE then some s.length else none
  | .tup ds => some ds.length
  | .ref r => (lstOf (.ref r) g).map (·.length)
  | _ => none
def oLen : B1 := fun x g => (lenD x g).map fun (n : Nat) => .int n
def oOrd : B1 := fun x _ => match x with | .str [c] => some (.int c.toNat) | _ => none
def oMin : B2 := fun x y _ => match x, y with | .int i, .int j => some (.int (if j < i then j else i)) | _, _ => none
def oMax : B2 := fun x y _ => match x, y with | .int i, .int j => some (.int (if j > i then j else i)) | _, _ => none
def allI : List D → Option (List Int)
  | [] => some []
  | .int i :: r => (allI r).map (i :: ·)
  | _ :: _ => none
def maxI : List Int → Option Int
  | [] => none
  | i :: r => match maxI r with | none => some i | some m => some (if i < m then m else i)
def minI : List Int → Option Int
  | [] => none
  | i :: r => match minI r with | none => some i | some m => some (if m < i then m else i)
def oMaxL : B1 := fun x g => ((seqOf x g).bind allI).bind fun is => (maxI is).map .int
def oMinL : B1 := fun x g => ((seqOf x g).bind allI).bind fun is => (minI is).map .int
def oTuple : N1 := fun x g => (seqOf x g).map fun xs => (.tup xs, g)
def oList : N1 := fun x g => (seqOf x g).map fun xs => newL xs g
/-! ### in order -/
def leS (a b : List Char) : Bool := decide (a.map Char.toNat ≤ b.map Char.toNat)
def sortS (xs : List (List Char)) : List (List Char) := xs.mergeSort leS
def sortI (xs : List Int) : List Int := xs.mergeSort fun a b => decide (a ≤ b)
/-- each text once -/
def ddS : List (List Char) → List (List Char)
  | [] => []
  | x :: r => if x ∈ r then ddS r else x :: ddS r
def allS : List D → Option (List (List Char))
  | [] => some []
  | .str s :: r => (allS r).map (s :: ·)
  | _ :: _ => none
/-- sorted(x), x a list of texts or of whole numbers -/
def oSorted : N1 := fun x g => (lstOf x g).bind fun xs => match allS xs with
  | some ss => some (newL ((sortS ss).map .str) g)
  | none => (allI xs).map fun is => newL ((sortI is).map .int) g
/-- sorted(set(x)), x a list or a tuple of texts -/
def oSortSet : N1 := fun x g => ((seqOf x g).bind allS).bind fun ss => if ss.length < 4000 then some (newL ((sortS (ddS ss)).map .str) g) else none
/-! ### methods -/
def oAppend : N2 := fun x y g => match mutOf x g with | some (r, xs) => if xs.length < LINE then some (.non, g.set r (.lst (xs ++ [y]))) else none | none => none
/-- x.append(y): x is a list as soon as it is reckoned -/
def mApp (o e : M) : M := fun ρ g => (o ρ g).bind fun x g1 => if (lstOf x g1).isSome then (e ρ g1).bind fun y g2 => ofO (oAppend x y g2) else .bad
/-! ### what is walked -/
structure Iter where
  get : Nat → G → Option (Option D)
  n : Nat
def itL (ds : List D) : Iter := ⟨fun i _ => some ds[i]?, ds.length⟩
def itR (r : Nat) (n : Nat) : Iter := ⟨fun i g => (lstOf (.ref r) g).map fun xs => xs[i]?, n⟩
abbrev I := Env → G → R Iter
/-- a list, a tuple, a text -/
def iterOf (x : D) (g : G) : Option Iter := match x with
  | .tup ds => some (itL ds)
  | .str s => some (itL (s.map fun c => .str [c]))
  | .ref r => (lstOf (.ref r) g).map fun xs => itR r xs.length
  | _ => none
def iAny (a : M) : I := fun ρ g => (a ρ g).bind fun x g1 => ofP (iterOf x g1) g1
theorem small_is : ∃ n : Int, n = 4611686018427387904 := ⟨_, rfl⟩
/-- 2^62, kept shut -/
noncomputable def SMALL : Int := Classical.choose small_is
theorem SMALL_is : SMALL = 4611686018427387904 := Classical.choose_spec small_is
def rng (lo : Int) (n : Nat) : List D := (List.range n).map fun (k : Nat) => .int (lo + k)
noncomputable def iRange1 (a : M) : I := fun ρ g => (a ρ g).bind fun x g1 => match x with
  | .int j => if -SMALL ≤ j ∧ j < SMALL then .ok (itL (rng 0 j.toNat)) g1 else .bad
  | _ => .bad
noncomputable def iRange2 (a b : M) : I := fun ρ g => (a ρ g).bind fun x g1 => (b ρ g1).bind fun y g2 => match x, y with
  | .int i, .int j => if (-SMALL ≤ i ∧ i < SMALL) ∧ -SMALL ≤ j ∧ j < SMALL then .ok (itL (rng i (j - i).toNat)) g2 else .bad
  | _, _ => .bad
/-- enumerate(x) -/
def itEn (it : Iter) : Iter := ⟨fun i g => (it.get i g).map fun o => o.map fun d => .tup [.int i, d], it.n⟩
def iEnum (a : M) : I := fun ρ g => (a ρ g).bind fun x g1 => match x with
  | .str _ => .bad
  | x => ofP ((iterOf x g1).map itEn) g1
/-! ### targets -/
abbrev Tg := D → Env → Option Env
def gName (i : Nat) : Tg := fun d ρ => some (ρ.set i (some d))
abbrev Tgs := List D → Env → Option Env
def gNil : Tgs := fun ds ρ => match ds with | [] => some ρ | _ => none
def gCons (t : Tg) (u : Tgs) : Tgs := fun ds ρ => match ds with | d :: r => (t d ρ).bind (u r) | [] => none
def gTup (t : Tgs) : Tg := fun d ρ => match d with | .tup ds => t ds ρ | _ => none
/-! ### comprehensions -/
def wipe (ρ : Env) : List Nat → Env
  | [] => ρ
  | v :: vs => (wipe ρ vs).set v none
/-- the loop: ρ has its own names wiped; D the new list's place -/
def lcGo (it : Nat → G → Option (Option D)) (t : Tg) (c : T) (e : M) (ρ : Env) (r : Nat) : Nat → Nat → G → R D
  | 0, _, _ => .bad
  | n + 1, i, g => match it i g with
    | none => .bad
    | some none => .ok (.ref r) g
    | some (some d) => match t d ρ with
      | none => .bad
      | some ρ2 => match c ρ2 g with
        | .ok true g3 => match e ρ2 g3 with
          | .ok y g4 => match mutOf (.ref r) g4 with
            | some (_, xs) => if xs.length < LINE then lcGo it t c e ρ r n (i + 1) (g4.set r (.lst (xs ++ [y]))) else .bad
            | none => .bad
          | _ => .bad
        | .ok false g3 => lcGo it t c e ρ r n (i + 1) g3
        | _ => .bad
def mLc (w : I) (t : Tg) (c : T) (e : M) (own : List Nat) : M := fun ρ g => (w ρ g).bind fun it g1 =>
  lcGo it.get t c e (wipe ρ own) g1.length (it.n + 1) 0 (g1 ++ [.lst []])
/-! ### statements -/
def sSeq (a b : S) : S := fun ρ g => match a ρ g with | .next ρ1 g1 => b ρ1 g1 | r => r
def sNil : S := fun ρ g => .next ρ g
def sBreak : S := fun ρ g => .brk ρ g
def sCont : S := fun ρ g => .cont ρ g
/-- from an expression: what it is on its way out -/
def onR {α : Type} (r : R α) (ρ : Env) (k : α → G → SR) : SR := match r with | .ok a g => k a g | .exc e g => .exc e ρ g | .bad => .bad
def sExpr (e : M) : S := fun ρ g => onR (e ρ g) ρ fun _ g1 => .next ρ g1
def sRet (e : M) : S := fun ρ g => onR (e ρ g) ρ fun d g1 => .ret d g1
def sRetN : S := fun _ g => .ret .non g
def sIf (t : T) (a b : S) : S := fun ρ g => onR (t ρ g) ρ fun c g1 => if c then a ρ g1 else b ρ g1
def sAsg (e : M) (t : Tg) : S := fun ρ g => onR (e ρ g) ρ fun d g1 => match t d ρ with | some ρ1 => .next ρ1 g1 | none => .bad
/-- o[i] = e -/
def sSetI (o i e : M) : S := fun ρ g => onR (e ρ g) ρ fun v g1 => onR (o ρ g1) ρ fun x g2 => onR (i ρ g2) ρ fun k g3 => match mutOf x g3, asI k with
  | some (r, xs), some k => match ix xs.length k with | some j => .next ρ (g3.set r (.lst (xs.set j v))) | none => .bad
  | _, _ => .bad
def forGo (it : Nat → G → Option (Option D)) (t : Tg) (b : S) : Nat → Nat → S
  | 0, _ => fun _ _ => .bad
  | n + 1, i => fun ρ g => match it i g with
    | none => .bad
    | some none => .next ρ g
    | some (some d) => match t d ρ with
      | none => .bad
      | some ρ1 => match b ρ1 g with
        | .next ρ2 g2 => forGo it t b n (i + 1) ρ2 g2
        | .cont ρ2 g2 => forGo it t b n (i + 1) ρ2 g2
        | .brk ρ2 g2 => .next ρ2 g2
        | r => r
def sFor (w : I) (t : Tg) (b : S) : S := fun ρ g => onR (w ρ g) ρ fun it g1 => forGo it.get t b (it.n + 1) 0 ρ g1
/-! ### exceptions -/
/-- raise C(..): its fields stand in a new object -/
def sRaise (c : String) (fs : List String) (as : A) : S := fun ρ g => onR (as ρ g) ρ fun xs g1 => if xs.length = fs.length then .exc ⟨c, some g1.length⟩ ρ (g1 ++ [.xd (fs.zip xs)]) else .bad
/-- raise C(), C without fields -/
def sRaise0 (c : String) : S := fun ρ g => .exc ⟨c, none⟩ ρ g
/-- the exception's fields, told where they stand; told no more -/
def pinX (r : Option Nat) (b : Nat) (g : G) : G := match r with
  | some r => match g[r]? with | some (.xd fs) => g.set r (.xda b fs) | _ => g
  | none => g
def unpinX (r : Option Nat) (g : G) : G := match r with
  | some r => match g[r]? with | some (.xda _ fs) => g.set r (.xd fs) | _ => g
  | none => g
/-- slot i is emptied, nothing is told of places -/
def SR.clean (i : Nat) (q : Option Nat) : SR → SR
  | .next ρ g => .next (ρ.set i none) (unpinX q g)
  | .brk ρ g => .brk (ρ.set i none) (unpinX q g)
  | .cont ρ g => .cont (ρ.set i none) (unpinX q g)
  | .ret d g => .ret d (unpinX q g)
  | .exc _ _ _ => .bad
  | .bad => .bad
open Classical in
/-- what is the same wherever the exception stands -/
noncomputable def same_for (f : Nat → Nat → SR) : SR := if h : ∃ r, ∀ a b, f a b = r then h.choose else .bad
theorem same_for_eq {f : Nat → Nat → SR} {r : SR} (h : ∀ a b, f a b = r) : same_for f = r := by
  have e : ∃ r, ∀ a b, f a b = r := ⟨r, h⟩
  unfold same_for
  rw [dif_pos e]
  exact (e.choose_spec 0 0).symm.trans (h 0 0)
/-- try: body, except .. as x: suite; slot i is x's -/
noncomputable def sTryAs (body : S) (cl : String → Option Bool) (i : Nat) (suite : Exc → Nat → Nat → S) : S := fun ρ g => match body ρ g with
  | .exc e ρ1 g1 => match cl e.cls with
    | some true => same_for fun a b => (suite e a b (ρ1.set i (some (.adr a))) (pinX e.at_ b g1)).clean i e.at_
    | some false => .exc e ρ1 g1
    | none => .bad
  | r => r
/-- try: body, except ..: suite -/
def sTry (body : S) (cl : String → Option Bool) (suite : S) : S := fun ρ g => match body ρ g with
  | .exc e ρ1 g1 => match cl e.cls with
    | some true => match suite ρ1 g1 with | .exc _ _ _ => .bad | r => r
    | some false => .exc e ρ1 g1
    | none => .bad
  | r => r
/-- a table of classes -/
def clT (tab : List (String × Bool)) : String → Option Bool := fun c => tab.lookup c
/-- isinstance(x, C) of the exception in hand (at a, in slot i; its fields at b) -/
def mIsE (cl : String → Option Bool) (i : Nat) (e : Exc) (a b : Nat) : M := fun ρ g => match ρ[i]? with
  | some (some (.adr a')) => if a' = a then match e.at_ with
    | some r => match g[r]? with | some (.xda b' _) => if b' = b then ofP ((cl e.cls).map .bl) g else .bad | _ => .bad
    | none => ofP ((cl e.cls).map .bl) g else .bad
  | _ => .bad
/-- x.f of the exception in hand -/
def mFldE (f : String) (i : Nat) (e : Exc) (a b : Nat) : M := fun ρ g => match ρ[i]? with
  | some (some (.adr a')) => if a' = a then match e.at_ with
    | some r => match g[r]? with | some (.xda b' fs) => if b' = b then ofP (fs.lookup f) g else .bad | _ => .bad
    | none => .bad else .bad
  | _ => .bad
/-- .. for classes cs -/
def mFldC (cs : List String) (f : String) (i : Nat) (e : Exc) (a b : Nat) : M := fun ρ g => if cs.contains e.cls then mFldE f i e a b ρ g else .bad
/-! ### defs -/
def fn (n m : Nat) (b : S) : F := fun ds g => if ds.length = n then match b (ds.map some ++ List.replicate (m - n) none) g with
  | .next _ g1 => .ok .non g1
  | .ret d g1 => .ok d g1
  | .exc e _ g1 => .exc e g1
  | _ => .bad else .bad
end Py
end

section
set_option autoImplicit false
set_option linter.all false
/-! The order of texts; sorted lists are unique. -/
namespace Py
theorem nat_inj : ∀ {s t : List Char}, s.map Char.toNat = t.map Char.toNat → s = t
  | [], [], _ => rfl
  | [], _ :: _, h => by simp at h
  | _ :: _, [], h => by simp at h
  | c :: s, d :: t, h => by
    simp only [List.map_cons, List.cons.injEq] at h
    rw [nat_inj h.2, Char.toNat_inj.mp h.1]
/-! ### the order -/
theorem leS_trans (a b c : List Char) (h1 : leS a b = true) (h2 : leS b c = true) : leS a c = true := by
  simp only [leS, decide_eq_true_eq] at *
  exact List.le_trans h1 h2
theorem leS_total (a b : List Char) : (leS a b || leS b a) = true := by
  simp only [leS, Bool.or_eq_true, decide_eq_true_eq]
  exact List.le_total _ _
theorem leS_anti {a b : List Char} (h1 : leS a b = true) (h2 : leS b a = true) : a = b := by
  simp only [leS, decide_eq_true_eq] at *
  exact nat_inj (List.le_antisymm h1 h2)
theorem sortS_perm (xs : List (List Char)) : (sortS xs).Perm xs := List.mergeSort_perm _ _
theorem sortS_ord (xs : List (List Char)) : (sortS xs).Pairwise fun a b => leS a b = true := List.pairwise_mergeSort leS_trans leS_total xs
theorem sortS_uniq {xs ys : List (List Char)} (p : ys.Perm xs) (o : ys.Pairwise fun a b => leS a b = true) : ys = sortS xs :=
  List.Perm.eq_of_pairwise (fun _ _ _ _ h1 h2 => leS_anti h1 h2) o (sortS_ord xs) (p.trans (sortS_perm xs).symm)
theorem sortI_perm (xs : List Int) : (sortI xs).Perm xs := List.mergeSort_perm _ _
theorem sortI_ord (xs : List Int) : (sortI xs).Pairwise (· ≤ ·) := (List.pairwise_mergeSort (le := fun a b : Int => decide (a ≤ b)) (fun a b c h1 h2 => by simp at *; omega) (fun a b => by simp; omega) xs).imp fun h => by simpa using h
theorem sortI_uniq {xs ys : List Int} (p : ys.Perm xs) (o : ys.Pairwise (· ≤ ·)) : ys = sortI xs :=
  List.Perm.eq_of_pairwise (fun _ _ _ _ h1 h2 => Int.le_antisymm h1 h2) o (sortI_ord xs) (p.trans (sortI_perm xs).symm)
theorem dd_mem {x : List Char} : ∀ {xs : List (List Char)}, x ∈ ddS xs ↔ x ∈ xs
  | [] => Iff.rfl
  | y :: r => by
    unfold ddS
    by_cases h : y ∈ r
    · rw [if_pos h, dd_mem, List.mem_cons]
      exact ⟨.inr, fun z => z.elim (fun e => e ▸ h) id⟩
    · rw [if_neg h, List.mem_cons, List.mem_cons, dd_mem]
theorem dd_nodup : ∀ xs : List (List Char), (ddS xs).Nodup
  | [] => List.nodup_nil
  | y :: r => by
    unfold ddS
    by_cases h : y ∈ r
    · rw [if_pos h]; exact dd_nodup r
    · rw [if_neg h]; exact List.nodup_cons.mpr ⟨fun z => h (dd_mem.mp z), dd_nodup r⟩
theorem sortS_dd {xs ys : List (List Char)} (nd : ys.Nodup) (m : ∀ x, x ∈ ys ↔ x ∈ xs) (o : ys.Pairwise fun a b => leS a b = true) : ys = sortS (ddS xs) :=
  sortS_uniq ((List.perm_ext_iff_of_nodup nd (dd_nodup xs)).mpr fun x => (m x).trans dd_mem.symm) o
end Py
end

section
set_option Elab.async false
set_option linter.all false
set_option maxRecDepth 100000
set_option autoImplicit false
/-! The small semantics over the hand layer: what a data tree is in the abstract heap, what a store is. -/
namespace Py
open PySem L2

def sS (s : List Char) : Str := ⟨(s.map Char.toNat).toArray⟩
mutual
inductive Rep (K : PySem.W.Frag) (H : Hp) (ι : List Addr) : D → V → Prop
  | non : Rep K H ι .non .non
  | bl (b : Bool) : Rep K H ι (.bl b) (.bl b)
  | int (i : Int) : Rep K H ι (.int i) (.int i)
  | str (s : List Char) : Rep K H ι (.str s) (.str (sS s))
  | tup {ds : List D} {vs : List V} {a : Addr} (h : SqT K H a vs) (r : Reps K H ι ds vs) : Rep K H ι (.tup ds) (.ref a)
  | ref {r : Nat} {a : Addr} (h : ι[r]? = some a) : Rep K H ι (.ref r) (.ref a)
  | adr (a : Nat) : Rep K H ι (.adr a) (.ref a)
inductive Reps (K : PySem.W.Frag) (H : Hp) (ι : List Addr) : List D → List V → Prop
  | nil : Reps K H ι [] []
  | cons {d : D} {v : V} {ds : List D} {vs : List V} (h : Rep K H ι d v) (t : Reps K H ι ds vs) : Reps K H ι (d :: ds) (v :: vs)
end
/-- a list that is only read -/
def FrzL (K : PySem.W.Frag) (H : Hp) (a : Addr) (xs : List V) : Prop :=
  (∃ o, H a = some (.frz o (.lst xs))) ∨
    (∃ (o : Obj) (its : Array Value) (n : Nat), K.lookup a = some o ∧ o.cls = .type "list" ∧ o.dict = none ∧ o.data = .seq its n ∧ its.size ≤ sizeLine ∧ Vals xs its.toList)
theorem FrzL.seq {K : PySem.W.Frag} {H : Hp} {a : Addr} {xs : List V} (h : FrzL K H a xs) : SqL K H a xs := by
  rcases h with ⟨o, h⟩ | h
  · exact .inl (.inr ⟨o, h⟩)
  · exact .inr h
/-- what object stands at a -/
def OR (K : PySem.W.Frag) (H : Hp) (ι : List Addr) : O → Addr → Prop
  | .lst xs, a => ∃ vs, H a = some (.lst vs) ∧ Reps K H ι xs vs
  | .frz xs, a => ∃ vs, FrzL K H a vs ∧ Reps K H ι xs vs
  | .xd fs, a => ∃ vs, H a = some (.xd ((fs.map fun f => Str.ofString f.1).zip vs)) ∧ Reps K H ι (fs.map (·.2)) vs
  | .xda b fs, a => a = b ∧ ∃ vs, H a = some (.xd ((fs.map fun f => Str.ofString f.1).zip vs)) ∧ Reps K H ι (fs.map (·.2)) vs
structure SR_ (K : PySem.W.Frag) (H : Hp) (ι : List Addr) (g : G) : Prop where
  len : ι.length = g.length
  obj : ∀ (r : Nat) (o : O) (a : Addr), g[r]? = some o → ι[r]? = some a → OR K H ι o a
  inj : ∀ (r r' : Nat) (a : Addr) (xs xs' : List D), ι[r]? = some a → ι[r']? = some a → g[r]? = some (.lst xs) → g[r']? = some (.lst xs') → r = r'
structure Ext (K : PySem.W.Frag) (H H' : Hp) (ι ι' : List Addr) : Prop where
  pre : ∀ (r : Nat) (a : Addr), ι[r]? = some a → ι'[r]? = some a
  tup : ∀ (a : Addr) (vs : List V), SqT K H a vs → SqT K H' a vs
section
variable {K : PySem.W.Frag} {H H' H2 : Hp} {ι ι' ι2 : List Addr}
theorem Ext.refl : Ext K H H ι ι := ⟨fun _ _ h => h, fun _ _ h => h⟩
theorem Ext.trans (x : Ext K H H' ι ι') (y : Ext K H' H2 ι' ι2) : Ext K H H2 ι ι2 := ⟨fun r a h => y.pre r a (x.pre r a h), fun a vs h => y.tup a vs (x.tup a vs h)⟩
mutual
theorem Rep.ext (x : Ext K H H' ι ι') : ∀ {d : D} {v : V}, Rep K H ι d v → Rep K H' ι' d v
  | _, _, .non => .non
  | _, _, .bl b => .bl b
  | _, _, .int i => .int i
  | _, _, .str s => .str s
  | _, _, .tup h r => .tup (x.tup _ _ h) (Reps.ext x r)
  | _, _, .ref h => .ref (x.pre _ _ h)
  | _, _, .adr a => .adr a
theorem Reps.ext (x : Ext K H H' ι ι') : ∀ {ds : List D} {vs : List V}, Reps K H ι ds vs → Reps K H' ι' ds vs
  | _, _, .nil => .nil
  | _, _, .cons h t => .cons (Rep.ext x h) (Reps.ext x t)
end
theorem Reps.len : ∀ {ds : List D} {vs : List V}, Reps K H ι ds vs → ds.length = vs.length
  | _, _, .nil => rfl
  | _, _, .cons _ t => by simp [Reps.len t]
theorem Reps.get : ∀ {ds : List D} {vs : List V} {i : Nat} {d : D}, Reps K H ι ds vs → ds[i]? = some d → ∃ v, vs[i]? = some v ∧ Rep K H ι d v
  | _, _, _, _, .nil, e => by simp at e
  | _, _, 0, _, .cons h _, e => by simp at e; subst e; exact ⟨_, rfl, h⟩
  | _, _, i + 1, d, .cons _ t, e => by
    obtain ⟨v, h1, h2⟩ := Reps.get (i := i) t (by simpa using e)
    exact ⟨v, by simpa using h1, h2⟩
theorem Reps.get' : ∀ {ds : List D} {vs : List V} {i : Nat} {v : V}, Reps K H ι ds vs → vs[i]? = some v → ∃ d, ds[i]? = some d ∧ Rep K H ι d v
  | _, _, _, _, .nil, e => by simp at e
  | _, _, 0, _, .cons h _, e => by simp at e; subst e; exact ⟨_, rfl, h⟩
  | _, _, i + 1, d, .cons _ t, e => by
    obtain ⟨v, h1, h2⟩ := Reps.get' (i := i) t (by simpa using e)
    exact ⟨v, by simpa using h1, h2⟩
theorem Reps.append : ∀ {ds es : List D} {vs ws : List V}, Reps K H ι ds vs → Reps K H ι es ws → Reps K H ι (ds ++ es) (vs ++ ws)
  | _, _, _, _, .nil, s => s
  | _, _, _, _, .cons h t, s => .cons h (Reps.append t s)
theorem Reps.take : ∀ {ds : List D} {vs : List V} (n : Nat), Reps K H ι ds vs → Reps K H ι (ds.take n) (vs.take n)
  | _, _, 0, _ => .nil
  | _, _, _ + 1, .nil => .nil
  | _, _, n + 1, .cons h t => .cons h (Reps.take n t)
theorem Reps.drop : ∀ {ds : List D} {vs : List V} (n : Nat), Reps K H ι ds vs → Reps K H ι (ds.drop n) (vs.drop n)
  | _, _, 0, r => r
  | _, _, _ + 1, .nil => .nil
  | _, _, n + 1, .cons _ t => Reps.drop n t
theorem Reps.set {d : D} {v : V} (r : Rep K H ι d v) : ∀ {ds : List D} {vs : List V} (n : Nat), Reps K H ι ds vs → Reps K H ι (ds.set n d) (vs.set n v)
  | _, _, _, .nil => .nil
  | _, _, 0, .cons _ t => .cons r t
  | _, _, n + 1, .cons h t => .cons h (Reps.set r n t)
theorem Reps.rev : ∀ {ds : List D} {vs : List V}, Reps K H ι ds vs → Reps K H ι ds.reverse vs.reverse
  | _, _, .nil => .nil
  | _, _, .cons h t => by rw [List.reverse_cons, List.reverse_cons]; exact Reps.append (Reps.rev t) (.cons h .nil)
theorem Reps.ints : ∀ {is : List Int}, Reps K H ι (is.map D.int) (is.map V.int)
  | [] => .nil
  | i :: r => .cons (.int i) (Reps.ints (is := r))
theorem Reps.strs : ∀ {is : List (List Char)}, Reps K H ι (is.map D.str) (is.map fun s => V.str (sS s))
  | [] => .nil
  | i :: r => .cons (.str i) (Reps.strs (is := r))
/-- the heap grows by a new object -/
theorem SqT.new {a p : Addr} {vs : List V} {o : HO} (hp : H p = none) (h : SqT K H a vs) : SqT K (upd H p o) a vs := by
  rcases h with (h | ⟨u, h⟩) | h
  · exact .inl (.inl (by rw [upd_ne (ne_of_none h hp)]; exact h))
  · exact .inl (.inr ⟨u, by rw [upd_ne (ne_of_none h hp)]; exact h⟩)
  · exact .inr h
theorem SqT.wr {a p : Addr} {vs : List V} {o : HO} {xs : List V} (hp : H p = some (.lst xs)) (h : SqT K H a vs) : SqT K (upd H p o) a vs := by
  rcases h with (h | ⟨u, h⟩) | h
  · exact .inl (.inl (by rw [upd_ne (ne_of h hp (by intro z; cases z))]; exact h))
  · exact .inl (.inr ⟨u, by rw [upd_ne (ne_of h hp (by intro z; cases z))]; exact h⟩)
  · exact .inr h
theorem Ext.new {p : Addr} {o : HO} (hp : H p = none) : Ext K H (upd H p o) ι ι := ⟨fun _ _ h => h, fun _ _ h => SqT.new hp h⟩
theorem Ext.wr {p : Addr} {o : HO} {xs : List V} (hp : H p = some (.lst xs)) : Ext K H (upd H p o) ι ι := ⟨fun _ _ h => h, fun _ _ h => SqT.wr hp h⟩
theorem Ext.snoc {p : Addr} : Ext K H H ι (ι ++ [p]) := ⟨fun r a h => by
  rw [List.getElem?_append_left (by exact (List.getElem?_eq_some_iff.mp h).1)]; exact h, fun _ _ h => h⟩
theorem FrzL.new {a p : Addr} {vs : List V} (hp : H p = none) (h : FrzL K H a vs) {o : HO} : FrzL K (upd H p o) a vs := by
  rcases h with ⟨u, h⟩ | h
  · exact .inl ⟨u, by rw [upd_ne (ne_of_none h hp)]; exact h⟩
  · exact .inr h
theorem FrzL.wr {a p : Addr} {vs xs : List V} (hp : H p = some (.lst xs)) (h : FrzL K H a vs) {o : HO} : FrzL K (upd H p o) a vs := by
  rcases h with ⟨u, h⟩ | h
  · exact .inl ⟨u, by rw [upd_ne (ne_of h hp (by intro z; cases z))]; exact h⟩
  · exact .inr h
theorem OR.new {a p : Addr} {o : HO} {x : O} (hp : H p = none) (h : OR K H ι x a) : OR K (upd H p o) ι x a := by
  cases x with
  | lst xs => obtain ⟨vs, h, r⟩ := h; exact ⟨vs, by rw [upd_ne (ne_of_none h hp)]; exact h, r.ext (Ext.new hp)⟩
  | frz xs => obtain ⟨vs, h, r⟩ := h; exact ⟨vs, h.new hp, r.ext (Ext.new hp)⟩
  | xd fs => obtain ⟨vs, h, r⟩ := h; exact ⟨vs, by rw [upd_ne (ne_of_none h hp)]; exact h, r.ext (Ext.new hp)⟩
  | xda b fs => obtain ⟨z, vs, h, r⟩ := h; exact ⟨z, vs, by rw [upd_ne (ne_of_none h hp)]; exact h, r.ext (Ext.new hp)⟩
theorem OR.wr {a p : Addr} {xs : List V} {o : HO} {x : O} (hp : H p = some (.lst xs)) (hne : a ≠ p ∨ ¬ ∃ ys, x = .lst ys) (h : OR K H ι x a) : OR K (upd H p o) ι x a := by
  cases x with
  | lst xs =>
    obtain ⟨vs, h, r⟩ := h
    rcases hne with hne | z
    · exact ⟨vs, by rw [upd_ne hne]; exact h, r.ext (Ext.wr hp)⟩
    · exact absurd ⟨_, rfl⟩ z
  | frz xs => obtain ⟨vs, h, r⟩ := h; exact ⟨vs, h.wr hp, r.ext (Ext.wr hp)⟩
  | xd fs => obtain ⟨vs, h, r⟩ := h; exact ⟨vs, by rw [upd_ne (ne_of h hp (by intro z; cases z))]; exact h, r.ext (Ext.wr hp)⟩
  | xda b fs => obtain ⟨z, vs, h, r⟩ := h; exact ⟨z, vs, by rw [upd_ne (ne_of h hp (by intro z; cases z))]; exact h, r.ext (Ext.wr hp)⟩
theorem OR.ext {x : O} {a : Addr} (h : OR K H ι x a) (e : Ext K H H ι ι') : OR K H ι' x a := by
  cases x with
  | lst xs => obtain ⟨vs, h, r⟩ := h; exact ⟨vs, h, r.ext e⟩
  | frz xs => obtain ⟨vs, h, r⟩ := h; exact ⟨vs, h, r.ext e⟩
  | xd fs => obtain ⟨vs, h, r⟩ := h; exact ⟨vs, h, r.ext e⟩
  | xda b fs => obtain ⟨z, vs, h, r⟩ := h; exact ⟨z, vs, h, r.ext e⟩
variable {g : G}
/-- an object that the store does not know -/
theorem SR_.new {p : Addr} {o : HO} (s : SR_ K H ι g) (hp : H p = none) : SR_ K (upd H p o) ι g := ⟨s.len, fun r x a h1 h2 => (s.obj r x a h1 h2).new hp, s.inj⟩
/-- a new list -/
theorem SR_.newL {p : Addr} {ds : List D} {vs : List V} (s : SR_ K H ι g) (hp : H p = none) (r : Reps K H ι ds vs) : SR_ K (upd H p (.lst vs)) (ι ++ [p]) (g ++ [.lst ds]) := by
  have e1 : Ext K (upd H p (.lst vs)) (upd H p (.lst vs)) ι (ι ++ [p]) := Ext.snoc
  have isP : ∀ (r : Nat) (a : Addr) (xs : List D), ι[r]? = some a → g[r]? = some (.lst xs) → a ≠ p := fun r a xs h1 h2 z => by
    obtain ⟨vs, h, _⟩ := s.obj r _ a h2 h1
    rw [z, hp] at h; cases h
  refine ⟨by simp [s.len], fun q x a h1 h2 => ?_, fun q q' a xs xs' h1 h2 h3 h4 => ?_⟩
  · by_cases hq : q < g.length
    · rw [List.getElem?_append_left hq] at h1
      rw [List.getElem?_append_left (by rw [s.len]; exact hq)] at h2
      exact ((s.obj q x a h1 h2).new hp).ext e1
    · have hl := (List.getElem?_eq_some_iff.mp h1).1
      have e : q = g.length := by simp at hl; omega
      subst e
      rw [List.getElem?_append_right (Nat.le_refl _), Nat.sub_self] at h1
      rw [← s.len, List.getElem?_append_right (Nat.le_refl _), Nat.sub_self] at h2
      simp at h1 h2
      subst h1 h2
      exact ⟨vs, upd_same, (r.ext (Ext.new hp)).ext e1⟩
  · have low : ∀ (q : Nat) (xs : List D), (ι ++ [p])[q]? = some a → (g ++ [O.lst ds])[q]? = some (.lst xs) → (ι[q]? = some a ∧ g[q]? = some (.lst xs)) ∨ (q = g.length ∧ a = p) := fun q xs h1 h3 => by
      by_cases hq : q < g.length
      · rw [List.getElem?_append_left hq] at h3
        rw [List.getElem?_append_left (by rw [s.len]; exact hq)] at h1
        exact .inl ⟨h1, h3⟩
      · have hl := (List.getElem?_eq_some_iff.mp h3).1
        have e : q = g.length := by simp at hl; omega
        subst e
        rw [← s.len, List.getElem?_append_right (Nat.le_refl _), Nat.sub_self] at h1
        simp at h1
        exact .inr ⟨rfl, h1.symm⟩
    rcases low q xs h1 h3 with ⟨a1, a3⟩ | ⟨e1, e2⟩
    · rcases low q' xs' h2 h4 with ⟨b1, b3⟩ | ⟨e1, e2⟩
      · exact s.inj q q' a xs xs' a1 b1 a3 b3
      · exact absurd e2 (isP q a xs a1 a3)
    · rcases low q' xs' h2 h4 with ⟨b1, b3⟩ | ⟨e1', e2'⟩
      · exact absurd e2 (isP q' a xs' b1 b3)
      · rw [e1, e1']
/-- a new exception's fields -/
theorem SR_.newX {p : Addr} {fs : List (String × D)} {vs : List V} (s : SR_ K H ι g) (hp : H p = none) (r : Reps K H ι (fs.map (·.2)) vs) : SR_ K (upd H p (.xd ((fs.map fun f => Str.ofString f.1).zip vs))) (ι ++ [p]) (g ++ [.xd fs]) := by
  have e1 : Ext K (upd H p (.xd ((fs.map fun f => Str.ofString f.1).zip vs))) (upd H p (.xd ((fs.map fun f => Str.ofString f.1).zip vs))) ι (ι ++ [p]) := Ext.snoc
  have isP : ∀ (r : Nat) (a : Addr) (xs : List D), ι[r]? = some a → g[r]? = some (.lst xs) → a ≠ p := fun r a xs h1 h2 z => by
    obtain ⟨vs, h, _⟩ := s.obj r _ a h2 h1
    rw [z, hp] at h; cases h
  refine ⟨by simp [s.len], fun q x a h1 h2 => ?_, fun q q' a xs xs' h1 h2 h3 h4 => ?_⟩
  · by_cases hq : q < g.length
    · rw [List.getElem?_append_left hq] at h1
      rw [List.getElem?_append_left (by rw [s.len]; exact hq)] at h2
      exact ((s.obj q x a h1 h2).new hp).ext e1
    · have hl := (List.getElem?_eq_some_iff.mp h1).1
      have e : q = g.length := by simp at hl; omega
      subst e
      rw [List.getElem?_append_right (Nat.le_refl _), Nat.sub_self] at h1
      rw [← s.len, List.getElem?_append_right (Nat.le_refl _), Nat.sub_self] at h2
      simp at h1 h2
      subst h1 h2
      exact ⟨vs, upd_same, (r.ext (Ext.new hp)).ext e1⟩
  · have low : ∀ (q : Nat) (xs : List D), (ι ++ [p])[q]? = some a → (g ++ [O.xd fs])[q]? = some (.lst xs) → (ι[q]? = some a ∧ g[q]? = some (.lst xs)) ∨ (q = g.length ∧ a = p) := fun q xs h1 h3 => by
      by_cases hq : q < g.length
      · rw [List.getElem?_append_left hq] at h3
        rw [List.getElem?_append_left (by rw [s.len]; exact hq)] at h1
        exact .inl ⟨h1, h3⟩
      · have hl := (List.getElem?_eq_some_iff.mp h3).1
        have e : q = g.length := by simp at hl; omega
        subst e
        rw [List.getElem?_append_right (Nat.le_refl _), Nat.sub_self] at h3
        cases h3
    rcases low q xs h1 h3 with ⟨a1, a3⟩ | ⟨e1, e2⟩
    · rcases low q' xs' h2 h4 with ⟨b1, b3⟩ | ⟨e1, e2⟩
      · exact s.inj q q' a xs xs' a1 b1 a3 b3
      · exact absurd e2 (isP q a xs a1 a3)
    · rcases low q' xs' h2 h4 with ⟨b1, b3⟩ | ⟨e1', e2'⟩
      · exact absurd e2 (isP q' a xs' b1 b3)
      · rw [e1, e1']
/-- a list is written -/
theorem SR_.wrL {l : Nat} {p : Addr} {xs ds : List D} {ws vs : List V} (s : SR_ K H ι g) (hl : g[l]? = some (.lst xs)) (hp : ι[l]? = some p) (r : Reps K H ι ds vs) (hH : H p = some (.lst ws)) : SR_ K (upd H p (.lst vs)) ι (g.set l (.lst ds)) := by
  have hlen : l < g.length := (List.getElem?_eq_some_iff.mp hl).1
  refine ⟨by simp [s.len], fun q x a h1 h2 => ?_, fun q q' a ys ys' h1 h2 h3 h4 => ?_⟩
  · by_cases hq : q = l
    · subst hq
      rw [List.getElem?_set_self hlen] at h1
      rw [hp] at h2
      cases h1; cases h2
      exact ⟨vs, upd_same, r.ext (Ext.wr hH)⟩
    · rw [List.getElem?_set_ne (Ne.symm hq)] at h1
      refine (s.obj q x a h1 h2).wr hH ?_
      cases x with
      | lst ys =>
        left
        intro z
        subst z
        exact hq (s.inj q l a ys xs h2 hp h1 hl)
      | frz ys => exact .inr fun ⟨_, z⟩ => by cases z
      | xd ys => exact .inr fun ⟨_, z⟩ => by cases z
      | xda b ys => exact .inr fun ⟨_, z⟩ => by cases z
  · have low : ∀ (q : Nat) (ys : List D), (g.set l (.lst ds))[q]? = some (.lst ys) → ∃ zs, g[q]? = some (.lst zs) := fun q ys h => by
      by_cases hq : q = l
      · subst hq; exact ⟨_, hl⟩
      · rw [List.getElem?_set_ne (Ne.symm hq)] at h; exact ⟨_, h⟩
    obtain ⟨zs, k1⟩ := low q ys h3
    obtain ⟨zs', k2⟩ := low q' ys' h4
    exact s.inj q q' a zs zs' h1 h2 k1 k2
/-- what stands at a list's reference -/
theorem SR_.lst {r : Nat} {a : Addr} {xs : List D} (s : SR_ K H ι g) (h : ι[r]? = some a) (hg : g[r]? = some (.lst xs)) : ∃ vs, H a = some (.lst vs) ∧ Reps K H ι xs vs := s.obj r _ a hg h
theorem SR_.frz {r : Nat} {a : Addr} {xs : List D} (s : SR_ K H ι g) (h : ι[r]? = some a) (hg : g[r]? = some (.frz xs)) : ∃ vs, FrzL K H a vs ∧ Reps K H ι xs vs := s.obj r _ a hg h
theorem SR_.xd {r : Nat} {a : Addr} {fs : List (String × D)} (s : SR_ K H ι g) (h : ι[r]? = some a) (hg : g[r]? = some (.xd fs)) : ∃ vs, H a = some (.xd ((fs.map fun f => Str.ofString f.1).zip vs)) ∧ Reps K H ι (fs.map (·.2)) vs := s.obj r _ a hg h
/-- the exception's fields, told where they stand -/
theorem SR_.pin {r : Option Nat} {b : Nat} (s : SR_ K H ι g) (h : ∀ q, r = some q → ι[q]? = some b) : SR_ K H ι (pinX r b g) := by
  cases r with
  | none => exact s
  | some r =>
    unfold pinX
    dsimp only
    split
    · rename_i fs hg
      have hl := (List.getElem?_eq_some_iff.mp hg).1
      have low : ∀ (q : Nat) (ys : List D), (g.set r (.xda b fs))[q]? = some (.lst ys) → g[q]? = some (.lst ys) := fun q ys z => by
        by_cases hq : q = r
        · subst hq; rw [List.getElem?_set_self hl] at z; cases z
        · rw [List.getElem?_set_ne (Ne.symm hq)] at z; exact z
      refine ⟨by simp [s.len], fun q x a h1 h2 => ?_, fun q q' a ys ys' h1 h2 h3 h4 => s.inj q q' a ys ys' h1 h2 (low q ys h3) (low q' ys' h4)⟩
      by_cases hq : q = r
      · subst hq
        rw [List.getElem?_set_self hl] at h1
        cases h1
        rw [h q rfl] at h2
        cases h2
        exact ⟨rfl, s.obj q _ _ hg (h q rfl)⟩
      · rw [List.getElem?_set_ne (Ne.symm hq)] at h1
        exact s.obj q x a h1 h2
    · exact s
theorem SR_.unpin (s : SR_ K H ι g) (r : Option Nat) : SR_ K H ι (unpinX r g) := by
  cases r with
  | none => exact s
  | some r =>
    unfold unpinX
    dsimp only
    split
    · rename_i b fs hg
      have hl := (List.getElem?_eq_some_iff.mp hg).1
      have low : ∀ (q : Nat) (ys : List D), (g.set r (.xd fs))[q]? = some (.lst ys) → g[q]? = some (.lst ys) := fun q ys z => by
        by_cases hq : q = r
        · subst hq; rw [List.getElem?_set_self hl] at z; cases z
        · rw [List.getElem?_set_ne (Ne.symm hq)] at z; exact z
      refine ⟨by simp [s.len], fun q x a h1 h2 => ?_, fun q q' a ys ys' h1 h2 h3 h4 => s.inj q q' a ys ys' h1 h2 (low q ys h3) (low q' ys' h4)⟩
      by_cases hq : q = r
      · subst hq
        rw [List.getElem?_set_self hl] at h1
        cases h1
        exact (s.obj q _ _ hg h2).2
      · rw [List.getElem?_set_ne (Ne.symm hq)] at h1
        exact s.obj q x a h1 h2
    · exact s
/-- a list or a tuple, by its items -/
theorem SR_.seq {d : D} {v : V} {xs : List D} (s : SR_ K H ι g) (r : Rep K H ι d v) (h : seqOf d g = some xs) : ∃ a vs, v = .ref a ∧ (SqL K H a vs ∨ SqT K H a vs) ∧ Reps K H ι xs vs := by
  cases r with
  | tup ht hr =>
    unfold seqOf at h
    cases h
    exact ⟨_, _, rfl, .inr ht, hr⟩
  | @ref r a ha =>
    unfold seqOf at h
    dsimp only at h
    split at h
    · rename_i ys e; cases h; obtain ⟨vs, h1, h2⟩ := s.lst ha e; exact ⟨a, vs, rfl, .inl (SqL.of h1), h2⟩
    · rename_i ys e; cases h; obtain ⟨vs, h1, h2⟩ := s.frz ha e; exact ⟨a, vs, rfl, .inl h1.seq, h2⟩
    · cases h
  | _ => cases h
theorem SR_.list {d : D} {v : V} {xs : List D} (s : SR_ K H ι g) (r : Rep K H ι d v) (h : lstOf d g = some xs) : ∃ a vs, v = .ref a ∧ SqL K H a vs ∧ Reps K H ι xs vs := by
  cases r with
  | @ref r a ha =>
    unfold lstOf at h
    dsimp only at h
    split at h
    · rename_i ys e; cases h; obtain ⟨vs, h1, h2⟩ := s.lst ha e; exact ⟨a, vs, rfl, SqL.of h1, h2⟩
    · rename_i ys e; cases h; obtain ⟨vs, h1, h2⟩ := s.frz ha e; exact ⟨a, vs, rfl, h1.seq, h2⟩
    · cases h
  | _ => cases h
/-! ### environments -/
structure ER (K : PySem.W.Frag) (H : Hp) (ι : List Addr) (ρ : Env) (σ : St) : Prop where
  len : ρ.length = σ.length
  at_ : ∀ (i : Nat) (d : D), ρ[i]? = some (some d) → ∃ v, σ[i]? = some (some v) ∧ Rep K H ι d v
variable {ρ : Env} {σ : St}
theorem ER.ext (e : ER K H ι ρ σ) (x : Ext K H H' ι ι') : ER K H' ι' ρ σ := ⟨e.len, fun i d h => let ⟨v, h1, h2⟩ := e.at_ i d h; ⟨v, h1, h2.ext x⟩⟩
theorem ER.set {d : D} {v : V} (e : ER K H ι ρ σ) (r : Rep K H ι d v) (i : Nat) : ER K H ι (ρ.set i (some d)) (σ.set i (some v)) := by
  refine ⟨by simp [e.len], fun j d' h => ?_⟩
  by_cases hj : j = i
  · subst hj
    have hl : j < ρ.length := by have := (List.getElem?_eq_some_iff.mp h).1; simpa using this
    rw [List.getElem?_set_self hl] at h
    cases h
    exact ⟨v, List.getElem?_set_self (by rw [← e.len]; exact hl), r⟩
  · rw [List.getElem?_set_ne (Ne.symm hj)] at h
    obtain ⟨v', h1, h2⟩ := e.at_ j d' h
    exact ⟨v', by rw [List.getElem?_set_ne (Ne.symm hj)]; exact h1, h2⟩
end
end Py
end

section
set_option Elab.async false
set_option linter.all false
set_option maxRecDepth 100000
set_option autoImplicit false
/-! Soundness of the expressions. -/
namespace Py
open PySem L2

theorem line_eq : sizeLine = LINE := by decide
/-- an exception as an object -/
def ExcR (mg : Str → Option Value) (K : PySem.W.Frag) (H : Hp) (ι : List Addr) (e : Exc) (cls : Value) (dx : Option Addr) : Prop :=
  mg (Str.ofString e.cls) = some cls ∧ (e.at_ = none → dx = none) ∧ ∀ r, e.at_ = some r → ∃ a, dx = some a ∧ ι[r]? = some a
section
variable {α β : Type} (K : PySem.W.Frag) (mg : Str → Option Value)
def Post (W : WX) (σ : St) (H : Hp) (ι : List Addr) (r : R α) (k : α → G → Hp → List Addr → Prop) : Prop := match r with
  | .ok a g => ∀ H' ι', Ext K H H' ι ι' → SR_ K H' ι' g → k a g H' ι'
  | .exc e g => ∀ cls dx H' ι', Ext K H H' ι ι' → SR_ K H' ι' g → ExcR mg K H' ι' e cls dx → W cls dx σ H'
  | .bad => False
def W0 : WX := fun _ _ _ _ => False
/-- an expression's reading -/
def tE (W : WX) (m : M) : TE := fun σ H Q => ∃ ρ g ι, ER K H ι ρ σ ∧ SR_ K H ι g ∧ Post K mg W σ H ι (m ρ g) fun d _ H' ι' => ∀ v, Rep K H' ι' d v → Q v H'
/-- a test's -/
def tT (W : WX) (t : T) : TT := fun σ H Q => ∃ ρ g ι, ER K H ι ρ σ ∧ SR_ K H ι g ∧ Post K mg W σ H ι (t ρ g) fun b _ H' _ => Q b H'
/-- an argument list's -/
def tA (W : WX) (a : A) : TA := fun σ H Q => ∃ ρ g ι, ER K H ι ρ σ ∧ SR_ K H ι g ∧ Post K mg W σ H ι (a ρ g) fun ds _ H' ι' => ∀ vs, Reps K H' ι' ds vs → Q vs H'
variable {K mg} {W : WX} {σ : St} {H H' : Hp} {ι ι' : List Addr}
theorem Post.ext {r : R α} {k : α → G → Hp → List Addr → Prop} (x : Ext K H H' ι ι') (p : Post K mg W σ H ι r k) : Post K mg W σ H' ι' r k := by
  cases r with
  | ok a g => exact fun H2 ι2 y s => p H2 ι2 (x.trans y) s
  | exc e g => exact fun cls dx H2 ι2 y s z => p cls dx H2 ι2 (x.trans y) s z
  | bad => exact p
theorem Post.imp {r : R α} {k k' : α → G → Hp → List Addr → Prop} (p : Post K mg W σ H ι r k) (h : ∀ a g H' ι', r = .ok a g → Ext K H H' ι ι' → SR_ K H' ι' g → k a g H' ι' → k' a g H' ι') : Post K mg W σ H ι r k' := by
  cases r with
  | ok a g => exact fun H2 ι2 y s => h _ _ _ _ rfl y s (p H2 ι2 y s)
  | exc e g => exact p
  | bad => exact p
theorem Post.bind {r : R α} {f : α → G → R β} {k : β → G → Hp → List Addr → Prop} (p : Post K mg W σ H ι (r.bind f) k) : Post K mg W σ H ι r fun a g H' ι' => Post K mg W σ H' ι' (f a g) k := by
  cases r with
  | ok a g => exact fun H2 ι2 y s => Post.ext y p
  | exc e g => exact p
  | bad => exact p
/-- a pure step -/
theorem Post.ofP {o : Option α} {g : G} {k : α → G → Hp → List Addr → Prop} (s : SR_ K H ι g) (p : Post K mg W σ H ι (ofP o g) k) : ∃ a, o = some a ∧ k a g H ι := by
  cases o with
  | none => exact p.elim
  | some a => exact ⟨a, rfl, p H ι Ext.refl s⟩
theorem Post.ofP' {o : Option α} {f : α → G → R β} {g : G} {k : β → G → Hp → List Addr → Prop} (p : Post K mg W σ H ι ((Py.ofP o g).bind f) k) : ∃ a, o = some a ∧ Post K mg W σ H ι (f a g) k := by
  cases o with
  | none => exact p.elim
  | some a => exact ⟨a, rfl, p⟩
theorem Post.ok {a : α} {g : G} {k : α → G → Hp → List Addr → Prop} (s : SR_ K H ι g) (p : Post K mg W σ H ι (.ok a g) k) : k a g H ι := p H ι Ext.refl s
theorem Post.ofO {o : Option (α × G)} {k : α → G → Hp → List Addr → Prop} (p : Post K mg W σ H ι (ofO o) k) : ∃ a g, o = some (a, g) ∧ ∀ H' ι', Ext K H H' ι ι' → SR_ K H' ι' g → k a g H' ι' := by
  rcases o with _ | ⟨a, g⟩
  · exact p.elim
  · exact ⟨a, g, rfl, p⟩
end

section
variable {X : Cx} {W : WX}
theorem _root_.L2.PE.mono {e : Expr} {t t' : TE} (h : PE X e t) (i : ∀ σ H Q, t' σ H Q → t σ H Q) : PE X e t' := ⟨fun pins s σ H Q I q => h.run pins s σ H Q I (i σ H Q q)⟩
theorem _root_.L2.PT.mono {e : Expr} {t t' : TT} (h : PT X e t) (i : ∀ σ H Q, t' σ H Q → t σ H Q) : PT X e t' := ⟨fun pins s σ H Q I q => h.run pins s σ H Q I (i σ H Q q)⟩
theorem _root_.L2.PW.mono {e : Expr} {t t' : TT} (h : PW X e t) (i : ∀ σ H Q, t' σ H Q → t σ H Q) : PW X e t' := ⟨fun w pins s σ H Q I q => h.run w pins s σ H Q I (i σ H Q q)⟩
theorem _root_.L2.PA.mono {e : List Expr} {t t' : TA} (h : PA X e t) (i : ∀ σ H Q, t' σ H Q → t σ H Q) : PA X e t' := ⟨fun p pins s σ H Q I q => h.run p pins s σ H Q I (i σ H Q q)⟩
theorem _root_.L2.PS.mono {e : Stmt} {t t' : TS} (h : PS X e t) (i : ∀ D σ H, t' D σ H → t D σ H) : PS X e t' := ⟨fun pins s σ H D I q => h.run pins s σ H D I (i D σ H q)⟩
theorem _root_.L2.PSs.mono {e : List Stmt} {t t' : TS} (h : PSs X e t) (i : ∀ D σ H, t' D σ H → t D σ H) : PSs X e t' := ⟨fun pins s σ H D I q => h.run pins s σ H D I (i D σ H q)⟩
theorem _root_.L2.PI.mono {tg e : Expr} {t t' : TI} (h : PI X tg e t) (i : ∀ σ H R, t' σ H R → t σ H R) : PI X tg e t' := ⟨fun pins s σ H R I q => h.run pins s σ H R I (i σ H R q)⟩

abbrev EE (X : Cx) (W : WX) (e : Expr) (m : M) : Prop := PE X e (tE X.K X.mg W m)
abbrev TTt (X : Cx) (W : WX) (e : Expr) (t : T) : Prop := PT X e (tT X.K X.mg W t)
abbrev AA (X : Cx) (W : WX) (es : List Expr) (a : A) : Prop := PA X es (tA X.K X.mg W a)
variable {a b c e : Expr} {es : List Expr} {pos : Pos} {ma mb mc m : M} {as : A}

/-! ### names, constants -/
theorem e_var (i : Nat) {x : Str} {pos : Pos} (hN : X.N[i]? = some x := by rfl) (hv : Vis X.env.scope x := by first | exact Or.inl rfl | exact Or.inr (Or.inl rfl) | exact Or.inr (Or.inr rfl)) (hd : (x == ("__debug__" : Str)) = false := by decide)
    (hcd : (x == ("__classdict__" : Str)) = false := by decide) : EE X W (.Name x pos) (mVar i) := (pe_var hN hv hd hcd).mono fun σ H Q ⟨ρ, g, ι, er, s, p⟩ => by
  unfold mVar at p
  cases h : ρ[i]? with
  | none => rw [h] at p; exact p.elim
  | some o =>
    cases o with
    | none => rw [h] at p; exact p.elim
    | some d =>
      rw [h] at p
      obtain ⟨v, h1, h2⟩ := er.at_ i d h
      exact ⟨v, h1, p.ok s v h2⟩
theorem e_C {d : D} {v : V} {e : Expr} (h : PE X e (tC v)) (r : ∀ H ι, Rep X.K H ι d v) : EE X W e (mC d) := h.mono fun σ H Q ⟨ρ, g, ι, er, s, p⟩ => p.ok s v (r H ι)
theorem e_int {i j pos} : EE X W (.Constant (.int i) j pos) (mC (.int i)) := e_C pe_int fun _ _ => .int i
theorem e_bl {i j pos} : EE X W (.Constant (.bool i) j pos) (mC (.bl i)) := e_C pe_bl fun _ _ => .bl i
theorem e_non {j pos} : EE X W (.Constant .none j pos) (mC .non) := e_C pe_non fun _ _ => .non
theorem sS_of (s : String) : Str.ofString s = sS s.toList := Str.ofString_eq_toList s
theorem e_str {x : Str} {s : List Char} {j pos} (h : x = sS s) : EE X W (.Constant (.str x) j pos) (mC (.str s)) := e_C pe_str fun H ι => by
  rw [h]; exact .str _
/-- a module's number -/
theorem e_gint {x : Str} {i : Int} {t : Tok} {pos : Pos} (hm : X.mg x = some (.int i t)) (hg : Gl X x := by rfl) (hd : (x == ("__debug__" : Str)) = false := by decide) : EE X W (.Name x pos) (mC (.int i)) :=
  e_C (pe_glob (v := .int i) hg hm ⟨t, rfl⟩ hd) fun _ _ => .int i
theorem e_gstr {x : Str} {s : List Char} {t : Tok} {pos : Pos} (hm : X.mg x = some (.str (sS s) t)) (hg : Gl X x := by rfl) (hd : (x == ("__debug__" : Str)) = false := by decide) : EE X W (.Name x pos) (mC (.str s)) :=
  e_C (pe_glob (v := .str (sS s)) hg hm ⟨t, rfl⟩ hd) fun _ _ => .str s

theorem e_gint' {x : Str} {i : Int} {pos : Pos} (h : ∃ t, X.mg x = some (.int i t)) (hg : Gl X x := by rfl) (hd : (x == ("__debug__" : Str)) = false := by decide) : EE X W (.Name x pos) (mC (.int i)) := h.elim fun _ hm => e_gint hm hg hd
theorem e_gstr' {x : Str} {s : List Char} {pos : Pos} (h : ∃ t, X.mg x = some (.str (sS s) t)) (hg : Gl X x := by rfl) (hd : (x == ("__debug__" : Str)) = false := by decide) : EE X W (.Name x pos) (mC (.str s)) := h.elim fun _ hm => e_gstr hm hg hd
/-! ### operators -/
def rD (K : PySem.W.Frag) (f : N2) : R2 := fun x y H Q => ∃ d1 d2 g ι, SR_ K H ι g ∧ Rep K H ι d1 x ∧ Rep K H ι d2 y ∧ ∃ d g', f d1 d2 g = some (d, g') ∧ ∀ v H' ι', Ext K H H' ι ι' → SR_ K H' ι' g' → Rep K H' ι' d v → Q v H'
def rD1 (K : PySem.W.Frag) (f : N1) (x : V) (H : Hp) (Q : VK) : Prop := ∃ d1 g ι, SR_ K H ι g ∧ Rep K H ι d1 x ∧ ∃ d g', f d1 g = some (d, g') ∧ ∀ v H' ι', Ext K H H' ι ι' → SR_ K H' ι' g' → Rep K H' ι' d v → Q v H'
theorem two {K mg} {ma mb : M} {f : N2} {σ : St} {H : Hp} {Q : VK} (h : tE K mg W (mOp f ma mb) σ H Q) : tE K mg W ma σ H fun x H1 => tE K mg W mb σ H1 fun y H2 => rD K f x y H2 Q := by
  obtain ⟨ρ, g, ι, er, s, p⟩ := h
  refine ⟨ρ, g, ι, er, s, (Post.bind p).imp fun d1 g1 H1 ι1 _ x1 s1 p1 v1 r1 => ⟨ρ, g1, ι1, er.ext x1, s1, (Post.bind p1).imp fun d2 g2 H2 ι2 _ x2 s2 p2 v2 r2 => ?_⟩⟩
  obtain ⟨d, g', e1, k⟩ := p2.ofO
  exact ⟨d1, d2, g2, ι2, s2, r1.ext x2, r2, d, g', e1, fun v H' ι' x s' r => k H' ι' x s' v r⟩
theorem one {K mg} {ma : M} {f : N1} {σ : St} {H : Hp} {Q : VK} (h : tE K mg W (mUn f ma) σ H Q) : tE K mg W ma σ H fun x H1 => rD1 K f x H1 Q := by
  obtain ⟨ρ, g, ι, er, s, p⟩ := h
  refine ⟨ρ, g, ι, er, s, (Post.bind p).imp fun d1 g1 H1 ι1 _ x1 s1 p1 v1 r1 => ?_⟩
  obtain ⟨d, g', e1, k⟩ := p1.ofO
  exact ⟨d1, g1, ι1, s1, r1, d, g', e1, fun v H' ι' x s' r => k H' ι' x s' v r⟩
theorem e_op {op : Operator} {f : N2} (ho : OpR X (binaryOp op) (rD X.K f)) (ha : EE X W a ma) (hb : EE X W b mb) : EE X W (.BinOp a op b pos) (mOp f ma mb) := (pe_op ho ha hb).mono fun _ _ _ h => two h
theorem e_cmp {op : CmpOp} {f : B2} (ho : OpR X (compareOp op) (rD X.K (p2 f))) (ha : EE X W a ma) (hb : EE X W b mb) (hm : behindInMarks op b = false := by rfl) : EE X W (.Compare a [op] [b] pos) (mOp (p2 f) ma mb) :=
  (pe_cmpR ho ha hb hm).mono fun _ _ _ h => two h
theorem e_un {op : UnaryOp} {f : N1} (ho : UnR X (unaryOp op) (rD1 X.K f)) (ha : EE X W a ma) : EE X W (.UnaryOp op a pos) (mUn f ma) := (pe_un ho ha).mono fun _ _ _ h => one h
theorem rD.pure {K} {f : B2} {x y : V} {H : Hp} {Q : VK} (h : rD K (p2 f) x y H Q) : ∃ d1 d2 g ι, SR_ K H ι g ∧ Rep K H ι d1 x ∧ Rep K H ι d2 y ∧ ∃ d, f d1 d2 g = some d ∧ ∀ v, Rep K H ι d v → Q v H := by
  obtain ⟨d1, d2, g, ι, s, r1, r2, d, g', e, k⟩ := h
  unfold p2 at e
  cases h1 : f d1 d2 g with
  | none => rw [h1] at e; cases e
  | some d' => rw [h1] at e; cases e; exact ⟨d1, d2, g, ι, s, r1, r2, _, h1, fun v r => k v H ι Ext.refl s r⟩
theorem rD1.pure {K} {f : B1} {x : V} {H : Hp} {Q : VK} (h : rD1 K (p1 f) x H Q) : ∃ d1 g ι, SR_ K H ι g ∧ Rep K H ι d1 x ∧ ∃ d, f d1 g = some d ∧ ∀ v, Rep K H ι d v → Q v H := by
  obtain ⟨d1, g, ι, s, r1, d, g', e, k⟩ := h
  unfold p1 at e
  cases h1 : f d1 g with
  | none => rw [h1] at e; cases e
  | some d' => rw [h1] at e; cases e; exact ⟨d1, g, ι, s, r1, _, h1, fun v r => k v H ι Ext.refl s r⟩

/-! ### and, or, not, if as values -/
theorem asB_some {d : D} {c : Bool} (h : asB d = some c) : d = .bl c := by
  cases d <;> simp [asB] at h
  rw [h]
theorem asI_some {d : D} {c : Int} (h : asI d = some c) : d = .int c := by
  cases d <;> simp [asI] at h
  rw [h]
theorem Rep.bl_inv {K H ι} {c : Bool} {v : V} (r : Rep K H ι (.bl c) v) : v = .bl c := by cases r; rfl
theorem Rep.int_inv {K H ι} {c : Int} {v : V} (r : Rep K H ι (.int c) v) : v = .int c := by cases r; rfl
theorem Rep.str_inv {K H ι} {c : List Char} {v : V} (r : Rep K H ι (.str c) v) : v = .str (sS c) := by cases r; rfl
theorem Rep.non_inv {K H ι} {v : V} (r : Rep K H ι .non v) : v = .non := by cases r; rfl
variable {op : PySem.BoolOp} {rest : List Expr}
theorem e_one (h : EE X W a m) : EE X W (.BoolOp op [a] pos) m := pe_one h
theorem e_and (ha : EE X W a ma) (hb : EE X W (.BoolOp .And (b :: rest) pos) mb) : EE X W (.BoolOp .And (a :: b :: rest) pos) (mAnd ma mb) := (pe_and ha hb).mono fun σ H Q ⟨ρ, g, ι, er, s, p⟩ => by
  refine ⟨ρ, g, ι, er, s, (Post.bind p).imp fun d1 g1 H1 ι1 _ x1 s1 p1 v1 r1 => ?_⟩
  obtain ⟨c, hc, p1⟩ := Post.ofP' p1
  cases asB_some hc
  cases r1
  refine ⟨c, rfl, ?_⟩
  cases c with
  | true => exact ⟨ρ, g1, ι1, er.ext x1, s1, p1⟩
  | false => exact p1.ok s1 _ (.bl false)
theorem e_or (ha : EE X W a ma) (hb : EE X W (.BoolOp .Or (b :: rest) pos) mb) : EE X W (.BoolOp .Or (a :: b :: rest) pos) (mOr ma mb) := (pe_or ha hb).mono fun σ H Q ⟨ρ, g, ι, er, s, p⟩ => by
  refine ⟨ρ, g, ι, er, s, (Post.bind p).imp fun d1 g1 H1 ι1 _ x1 s1 p1 v1 r1 => ?_⟩
  obtain ⟨c, hc, p1⟩ := Post.ofP' p1
  cases asB_some hc
  cases r1
  refine ⟨c, rfl, ?_⟩
  cases c with
  | false => exact ⟨ρ, g1, ι1, er.ext x1, s1, p1⟩
  | true => exact p1.ok s1 _ (.bl true)
theorem e_not (ha : EE X W a ma) : EE X W (.UnaryOp .Not a pos) (mNot ma) := (pe_not ha).mono fun σ H Q ⟨ρ, g, ι, er, s, p⟩ => by
  refine ⟨ρ, g, ι, er, s, (Post.bind p).imp fun d1 g1 H1 ι1 _ x1 s1 p1 v1 r1 => ?_⟩
  obtain ⟨c, hc, p1⟩ := Post.ofP' p1
  cases asB_some hc
  cases r1
  exact ⟨c, rfl, p1.ok s1 _ (.bl _)⟩
variable {t u : T}
theorem e_if (hc : TTt X W c t) (ha : EE X W a ma) (hb : EE X W b mb) : EE X W (.IfExp c a b pos) (mIf t ma mb) := (pe_ifExp hc ha hb).mono fun σ H Q ⟨ρ, g, ι, er, s, p⟩ => by
  refine ⟨ρ, g, ι, er, s, (Post.bind p).imp fun k g1 H1 ι1 _ x1 s1 p1 => ?_⟩
  cases k with
  | true => exact ⟨ρ, g1, ι1, er.ext x1, s1, p1⟩
  | false => exact ⟨ρ, g1, ι1, er.ext x1, s1, p1⟩
theorem chain_read {K : PySem.W.Frag} {mg : Str → Option Value} {f f' : B2} {σ : St} {H : Hp} {Q : VK} (h : tE K mg W (mChain f f' ma mb mc) σ H Q) : tChain (rD K (p2 f)) (rD K (p2 f')) (tE K mg W ma) (tE K mg W mb) (tE K mg W mc) σ H Q := by
  obtain ⟨ρ, g, ι, er, s, p⟩ := h
  refine ⟨ρ, g, ι, er, s, (Post.bind p).imp fun d1 g1 H1 ι1 _ x1 s1 p1 v1 r1 => ⟨ρ, g1, ι1, er.ext x1, s1, (Post.bind p1).imp fun d2 g2 H2 ι2 _ x2 s2 p2' v2 r2 => ?_⟩⟩
  obtain ⟨z, e1, p3⟩ := Post.ofP' p2'
  refine ⟨d1, d2, g2, ι2, s2, r1.ext x2, r2, z, g2, by unfold p2; rw [e1]; rfl, fun v3 H3 ι3 x3 s3 r3 => ?_⟩
  obtain ⟨k, e2, p4⟩ := Post.ofP' p3
  cases asB_some e2
  cases r3
  refine ⟨k, rfl, ?_⟩
  cases k with
  | false => exact (Post.ext x3 p4).ok s3 _ (.bl false)
  | true =>
    refine ⟨ρ, g2, ι3, (er.ext x1).ext (x2.trans x3), s3, (Post.bind (Post.ext x3 p4)).imp fun d5 g5 H5 ι5 _ x5 s5 p5 v5 r5 => ?_⟩
    obtain ⟨d6, e6, k6⟩ := p5.ofP s5
    exact ⟨d2, d5, g5, ι5, s5, (r2.ext x3).ext x5, r5, d6, g5, by unfold p2; rw [e6]; rfl, fun v6 H6 ι6 x6 s6 r6 => by
      obtain ⟨d7, e7, k7⟩ := (Post.ext x6 p5).ofP s6
      rw [e6] at e7; cases e7
      exact k7 v6 r6⟩
theorem e_chain {o1 o2 : CmpOp} {f f' : B2} (h1 : OpR X (compareOp o1) (rD X.K (p2 f))) (h2 : OpR X (compareOp o2) (rD X.K (p2 f'))) (ha : EE X W a ma) (hb : EE X W b mb) (hc : EE X W c mc)
    (hm : lastMarks [o1, o2] [b, c] = false := by rfl) : EE X W (.Compare a [o1, o2] [b, c] pos) (mChain f f' ma mb mc) := (pe_chain h1 h2 ha hb hc hm).mono fun σ H Q h => chain_read h

/-! ### tests -/
theorem t_val (h : EE X W e m) (he : ∀ whole, isTrue e X.env whole = (do let v ← whole; standAt e.pos; holding [v] (truthy v)) := by intro _; rfl) : TTt X W e (tVal m) := (pt_val h he).mono fun σ H Q ⟨ρ, g, ι, er, s, p⟩ => by
  refine ⟨ρ, g, ι, er, s, (Post.bind p).imp fun d1 g1 H1 ι1 _ x1 s1 p1 v1 r1 => ?_⟩
  obtain ⟨c, hc, q1⟩ := Post.ofP s1 p1
  cases asB_some hc
  cases r1
  exact ⟨c, rfl, q1⟩
theorem t_cmp {op : CmpOp} {f : B2} (ho : OpR X (compareOp op) (rD X.K (p2 f))) (ha : EE X W a ma) (hb : EE X W b mb) (hm : behindInMarks op b = false := by rfl) : TTt X W (.Compare a [op] [b] pos) (tVal (mOp (p2 f) ma mb)) :=
  (pt_cmpR ho ha hb hm).mono fun σ H Q ⟨ρ, g, ι, er, s, p⟩ => by
  have p := Post.bind p
  have h : tE X.K X.mg W (mOp (p2 f) ma mb) σ H fun x H1 => ∃ c, x = .bl c ∧ Q c H1 := ⟨ρ, g, ι, er, s, p.imp fun d1 g1 H1 ι1 _ x1 s1 p1 v1 r1 => by
    obtain ⟨c, hc, q1⟩ := Post.ofP s1 p1
    cases asB_some hc
    cases r1
    exact ⟨c, rfl, q1⟩⟩
  exact two h
/-- a test that is a value: the reading -/
theorem val_read {K : PySem.W.Frag} {mg : Str → Option Value} {σ : St} {H : Hp} {Q : Bool → Hp → Prop} (h : tT K mg W (tVal m) σ H Q) : tE K mg W m σ H fun x H' => ∃ k, x = .bl k ∧ Q k H' := by
  obtain ⟨ρ, g, ι, er, s, p⟩ := h
  refine ⟨ρ, g, ι, er, s, (Post.bind p).imp fun d1 g1 H1 ι1 _ x1 s1 p1 v1 r1 => ?_⟩
  obtain ⟨c, hc, q1⟩ := Post.ofP s1 p1
  cases asB_some hc
  cases r1
  exact ⟨c, rfl, q1⟩
theorem t_chain {o1 o2 : CmpOp} {f f' : B2} (h1 : OpR X (compareOp o1) (rD X.K (p2 f))) (h2 : OpR X (compareOp o2) (rD X.K (p2 f'))) (ha : EE X W a ma) (hb : EE X W b mb) (hc : EE X W c mc)
    (hm : lastMarks [o1, o2] [b, c] = false := by rfl) : TTt X W (.Compare a [o1, o2] [b, c] pos) (tVal (mChain f f' ma mb mc)) := (pt_chain h1 h2 ha hb hc hm).mono fun σ H Q h => chain_read (val_read h)
theorem truth_rep {K : PySem.W.Frag} {H : Hp} {ι : List Addr} {g : G} {d : D} {v : V} {b : Bool} (s : SR_ K H ι g) (r : Rep K H ι d v) (h : truth d g = some b) : TruV K v H b := by
  cases r with
  | adr _ => cases h
  | non => cases h; rfl
  | bl b => cases h; rfl
  | int i => cases h; rfl
  | str z =>
    unfold truth at h
    dsimp only at h
    split at h
    · rename_i hl
      cases h
      have e : (sS z).length = z.length := by simp [sS, Str.length]
      refine ⟨by rw [e, line_eq]; exact hl, ?_⟩
      rw [e]
      cases z <;> simp
      omega
    · cases h
  | @tup ds vs a ht hr =>
    cases h
    refine .inr (.inl ⟨vs, ht, ?_⟩)
    cases hr <;> rfl
  | @ref q a ha =>
    unfold truth at h
    dsimp only at h
    split at h
    · rename_i xs e
      cases h
      obtain ⟨vs, h1, h2⟩ := s.lst ha e
      exact .inl ⟨vs, SqL.of h1, by cases h2 <;> rfl⟩
    · rename_i xs e
      cases h
      obtain ⟨vs, h1, h2⟩ := s.frz ha e
      exact .inl ⟨vs, h1.seq, by cases h2 <;> rfl⟩
    · cases h
theorem t_tru (h : EE X W e m) (he : ∀ whole, isTrue e X.env whole = (do let v ← whole; standAt e.pos; holding [v] (truthy v)) := by exact fun _ => rfl) : TTt X W e (tTru m) := (pt_truth h he).mono fun σ H Q ⟨ρ, g, ι, er, s, p⟩ => by
  refine ⟨ρ, g, ι, er, s, (Post.bind p).imp fun d1 g1 H1 ι1 _ x1 s1 p1 v1 r1 => ?_⟩
  obtain ⟨c, hc, q1⟩ := Post.ofP s1 p1
  exact ⟨c, truth_rep s1 r1 hc, q1⟩
theorem t_and1 (h : TTt X W a t) : PW X (.BoolOp .And [a] pos) (tT X.K X.mg W t) := pw_and1 h
theorem t_or1 (h : TTt X W a t) : PW X (.BoolOp .Or [a] pos) (tT X.K X.mg W t) := pw_or1 h
theorem t_and (ha : TTt X W a t) (hb : PW X (.BoolOp .And (b :: rest) pos) (tT X.K X.mg W u)) : PW X (.BoolOp .And (a :: b :: rest) pos) (tT X.K X.mg W (Py.tAnd t u)) := (pw_and ha hb).mono fun σ H Q ⟨ρ, g, ι, er, s, p⟩ => by
  refine ⟨ρ, g, ι, er, s, (Post.bind p).imp fun k g1 H1 ι1 _ x1 s1 p1 => ?_⟩
  cases k with
  | true => exact ⟨ρ, g1, ι1, er.ext x1, s1, p1⟩
  | false => exact p1.ok s1
theorem t_or (ha : TTt X W a t) (hb : PW X (.BoolOp .Or (b :: rest) pos) (tT X.K X.mg W u)) : PW X (.BoolOp .Or (a :: b :: rest) pos) (tT X.K X.mg W (Py.tOr t u)) := (pw_or ha hb).mono fun σ H Q ⟨ρ, g, ι, er, s, p⟩ => by
  refine ⟨ρ, g, ι, er, s, (Post.bind p).imp fun k g1 H1 ι1 _ x1 s1 p1 => ?_⟩
  cases k with
  | false => exact ⟨ρ, g1, ι1, er.ext x1, s1, p1⟩
  | true => exact p1.ok s1
theorem t_w (h : PW X e (tT X.K X.mg W t)) : TTt X W e t := h.pt
theorem t_not (h : TTt X W a t) : TTt X W (.UnaryOp .Not a pos) (Py.tNot t) := (pt_not h).mono fun σ H Q ⟨ρ, g, ι, er, s, p⟩ => by
  exact ⟨ρ, g, ι, er, s, (Post.bind p).imp fun k g1 H1 ι1 _ x1 s1 p1 => p1.ok s1⟩

/-! ### argument lists, displays -/
theorem a_nil : AA X W [] mNil := pa_nil.mono fun σ H Q ⟨ρ, g, ι, er, s, p⟩ => p.ok s [] .nil
theorem a_cons (ha : EE X W e m) (hr : AA X W es as) (hs : starEach (e :: es) X.env = (false, eval e X.env) :: starEach es X.env := by rfl) : AA X W (e :: es) (mCons m as) := (pa_cons ha hr hs).mono fun σ H Q ⟨ρ, g, ι, er, s, p⟩ => by
  refine ⟨ρ, g, ι, er, s, (Post.bind p).imp fun d1 g1 H1 ι1 _ x1 s1 p1 v1 r1 => ⟨ρ, g1, ι1, er.ext x1, s1, (Post.bind p1).imp fun ds g2 H2 ι2 _ x2 s2 p2 vs rs => ?_⟩⟩
  exact p2.ok s2 _ (.cons (r1.ext x2) rs)
theorem e_tup {x1} (h : AA X W es as) : EE X W (.Tuple es x1 pos) (mTup as) := (pe_tup h).mono fun σ H Q ⟨ρ, g, ι, er, s, p⟩ => by
  refine ⟨ρ, g, ι, er, s, (Post.bind p).imp fun ds g1 H1 ι1 _ x1 s1 p1 vs rs => ?_⟩
  by_cases hl : ds.length ≤ LINE
  · rw [if_pos hl] at p1
    refine ⟨by rw [line_eq, ← rs.len]; exact hl, fun q hq => ?_⟩
    exact p1 _ ι1 (Ext.new hq) (s1.new hq) _ (.tup (SqT.of upd_same) (rs.ext (Ext.new hq)))
  · rw [if_neg hl] at p1
    exact p1.elim
theorem e_lst (h : AA X W es as) : EE X W (.List es pos) (mLst as) := (pe_lst h).mono fun σ H Q ⟨ρ, g, ι, er, s, p⟩ => by
  refine ⟨ρ, g, ι, er, s, (Post.bind p).imp fun ds g1 H1 ι1 _ x1 s1 p1 vs rs => ?_⟩
  by_cases hl : ds.length ≤ LINE
  · rw [if_pos hl] at p1
    refine ⟨by rw [line_eq, ← rs.len]; exact hl, fun q hq => ?_⟩
    exact p1 _ (ι1 ++ [q]) ((Ext.new hq).trans Ext.snoc) (s1.newL hq rs) _ (.ref (by rw [← s1.len]; simp))
  · rw [if_neg hl] at p1
    exact p1.elim
end
end Py
end

section
set_option Elab.async false
set_option linter.all false
set_option maxRecDepth 100000
set_option autoImplicit false
/-! Sets of texts: filled from a tuple or a list, walked, sorted. -/
namespace PyG
open PySem PySem.Spec PyProof.Rows L2 PySem.Froz

/-! ### the payload behind an add -/
theorem tail_perm (ep : Nat) (es : Array (Int × Value)) (t : SetTable) (d : Bool) : (tailTx ep es t d).1.toList.Perm es.toList := by
  unfold tailTx
  split
  · exact relayAll_perm t es _
  · exact List.Perm.refl _
theorem tail_ris {ep : Nat} {es : Array (Int × Value)} {t : SetTable} {d : Bool} (r : Ris t.place.toList) : Ris (tailTx ep es t d).2.2.place.toList := by
  unfold tailTx
  split
  · exact relayAll_ris t es _
  · exact r
theorem tail_led (ep : Nat) (es : Array (Int × Value)) (t : SetTable) (d : Bool) : (tailTx ep es t d).2.2.led = t.led := by
  unfold tailTx
  split
  · exact relayAll_led t es _
  · rfl
theorem off_place (b : SetTable) : (if b.plain = true then { b with plain := false } else b).place = b.place := by split <;> rfl
theorem off_led (b : SetTable) : (if b.plain = true then { b with plain := false } else b).led = b.led := by split <;> rfl
theorem add_perm (x : Int) (v : Value) (D : SD) : (addTx x v D).1.toList.Perm ((x, v) :: D.1.toList) := by
  unfold addTx
  refine (tail_perm _ _ _ _).trans ((layNew_perm D.2.2 D.1 x v).trans ?_)
  rw [Array.toList_push]
  exact List.perm_append_singleton _ _
theorem add_ris {x : Int} {v : Value} {D : SD} (r : Ris D.2.2.place.toList) : Ris (addTx x v D).2.2.place.toList := by
  unfold addTx
  refine tail_ris ?_
  rw [off_place]
  exact layNew_ris D.2.2 D.1 x v r
theorem add_led (x : Int) (v : Value) (D : SD) : (addTx x v D).2.2.led = D.2.2.led := by
  unfold addTx
  rw [tail_led, off_led, layNew_led]

/-! ### what a set of texts is -/
def txt (e : Int × Value) : Str := strOf e.2
/-- the payload D of a set of just the texts l -/
structure TxD (P : Program) (w : World) (D : SD) (l : List Str) : Prop where
  ok : TxOk P w D l
  nd : l.Nodup
  pm : (D.1.toList.map txt).Perm l
  tx : ∀ e ∈ D.1.toList, ∃ k u, e.2 = Value.str k u
  ris : Ris D.2.2.place.toList
  led : w.params.followText "set-order" = true ∨ D.2.2.led = true
section
variable {P : Program} {w : World} {D : SD} {l : List Str}
theorem TxD.add {k : Str} (T : TxD P w D l) (u : Tok) (hk : k ∉ l) : TxD P w (addTx (hashStr w k) (.str k u) D) (k :: l) where
  ok := add_ok u T.ok
  nd := List.nodup_cons.mpr ⟨hk, T.nd⟩
  pm := ((add_perm _ _ D).map txt).trans (T.pm.cons k)
  tx := fun e he => by
    rcases List.mem_cons.mp ((add_perm (hashStr w k) (.str k u) D).mem_iff.mp he) with z | z
    · exact ⟨k, u, by rw [z]⟩
    · exact T.tx e z
  ris := add_ris T.ris
  led := T.led.imp id fun z => by rw [add_led]; exact z
def blank (w : World) : SD := (#[], 0, .fresh 0 0 (!w.params.followText "set-order"))
theorem TxD.blank : TxD P w (blank w) [] where
  ok := TxOk.nil rfl
  nd := List.nodup_nil
  pm := List.Perm.refl _
  tx := fun e he => by cases he
  ris := List.Pairwise.nil
  led := by
    show _ ∨ (!w.params.followText "set-order") = true
    cases w.params.followText "set-order"
    · exact .inr rfl
    · exact .inl rfl

variable {A : Around} {E : Value → Shared → Prop} {s : Shared} {a : Addr}
/-- a text that is there already -/
theorem add_old {k : Str} {u : Tok} {Q : Bool → Shared → Prop} (ho : s.heap.get? a = some (sObj "set" D)) (T : TxD P w D l) (hk : k ∈ l) (hb : l.length < scanBound) (h : Q false s) :
    wpAny (model P w) A (setAddHashed a (.str k u) (hashStr w k)) Q E s := by
  obtain ⟨es, ep, t⟩ := D
  have dat : (sObj "set" (es, ep, t)).data = .set es ep t := rfl
  have fits : t.fits es.size = true := T.ok.fit
  have el : ElemsOf (strKind P w) es.toList := T.ok.el
  have few : es.size < scanBound := by
    have z : es.size = l.length := T.ok.sz
    omega
  obtain ⟨e0, he0, q0⟩ := (T.ok.mem k).mp hk
  unfold setAddHashed setAddHashedIn
  refine wpAny_holding (wpAny_bind (wpAny_setState_of ho dat fits ?_))
  dsimp only
  rw [byScan_of rfl few el, if_pos rfl]
  unfold setAddByScan
  refine wpAny_bind (wpAny_bind (wpAny_rule (wpAny_bind (wpAny_setScan_of (knd := strKind P w) (k := k) (is_str k u) ho dat fits el ?_))))
  cases hf : List.findIdx? (fun e => (strKind P w).is k e.2) es.toList with
  | none =>
    have c := List.findIdx?_eq_none_iff.mp hf e0 he0
    rw [q0] at c
    cases c
  | some j =>
    dsimp only
    exact wpAny_pure (wpAny_pure h)
/-- add, one text -/
theorem add_any {k : Str} {u : Tok} {Q : Bool → Shared → Prop} (ho : s.heap.get? a = some (sObj "set" D)) (T : TxD P w D l) (hb : l.length + 1 < scanBound)
    (h : ∀ b h' D' l', Heap.SameBut a s.heap h' → h'.get? a = some (sObj "set" D') → TxD P w D' l' → l'.length ≤ l.length + 1 → (∀ x, x ∈ l' ↔ x = k ∨ x ∈ l) → Q b { s with heap := h' }) :
    wpAny (model P w) A (setAddHashed a (.str k u) (hashStr w k)) Q E s := by
  by_cases hk : k ∈ l
  · exact add_old ho T hk (by omega) (h false s.heap D l (Heap.SameBut.refl a s.heap) ho T (Nat.le_succ _) fun x => ⟨.inr, fun z => z.elim (fun e => e ▸ hk) id⟩)
  · exact add_x ho T.ok hk hb (h true _ _ (k :: l) (Heap.SameBut.update ..) (get_upd _ ho rfl) (T.add u hk) (Nat.le_refl _) fun x => List.mem_cons)
end

/-! ### filling -/
section
variable {P : Program} {w : World} {A : Around} {I : Addr} {fp wr : List Addr} {Gs : Array GenState → Array GenState → Prop} {n : Nat} {Pv : Nat → Value → Prop} {St : Nat → Shared → Prop} {R : Result → Shared → Prop}
theorem fill (W : WalksS P w A.in1 I fp wr Gs n Pv St) (a : Addr) (ha : a ∉ fp) (ks : List Str) (hn : n = ks.length) (hb : ks.length + 1 < scanBound) (hv : ∀ i v, Pv i v → ∃ x u, ks[i]? = some x ∧ v = .str x u) :
    ∀ (m i : Nat) (s : Shared), n - i = m → i ≤ n → St i s → (∃ D l, s.heap.get? a = some (sObj "set" D) ∧ TxD P w D l ∧ l.length ≤ i ∧ ∀ x, x ∈ l ↔ x ∈ ks.take i) →
      (∀ s' D l, Moved (a :: wr) Gs s s' → s'.heap.get? a = some (sObj "set" D) → TxD P w D l → l.length ≤ n → (∀ x, x ∈ l ↔ x ∈ ks) → R (.ok (.ret .none)) s') →
      codeAny (model P w) A (.builtin "set.update.loop" ⟨[.ref a, .ref I], []⟩) R s := by
  have naw : a ∉ wr := fun z => ha (W.sub _ z)
  have up : ∀ b ∈ wr, b ∈ a :: wr := fun b z => List.mem_cons_of_mem _ z
  intro m
  induction m with
  | zero =>
    intro i s e1 hi st ⟨D, l, ho, T, hl, hm⟩ k
    obtain rfl : i = n := by omega
    refine codeAny_builtin F.entry_set_update_loop ?_
    rw [Around.under_plainId F.plain_set_update_loop _]
    show wpAny _ A.in1 (pyNext (.ref I) >>= _) _ _ s
    refine wpAny_bind (W.done s _ _ st fun s' mv => ?_)
    show wpAny _ A.in1 (ret Value.none) _ _ s'
    refine wpAny_pure (k s' D l (mv.mono up) (mv.heap a _ naw ho) T hl fun x => ?_)
    rw [hm x, List.take_of_length_le (Nat.le_of_eq hn.symm)]
  | succ m ih =>
    intro i s e1 hi st ⟨D, l, ho, T, hl, hm⟩ k
    have lt : i < n := by omega
    refine codeAny_builtin F.entry_set_update_loop ?_
    rw [Around.under_plainId F.plain_set_update_loop _]
    show wpAny _ A.in1 (pyNext (.ref I) >>= _) _ _ s
    refine wpAny_bind (W.item i s _ _ lt st fun v s1 pv st1 mv => ?_)
    obtain ⟨x, u, hx, rfl⟩ := hv i v pv
    have ho1 := mv.heap a _ naw ho
    show wpAny _ A.in1 (holding [Value.str x u] (setAdd a (.str x u)) >>= _) _ _ s1
    refine wpAny_bind (wpAny_holding ?_)
    unfold setAdd
    refine wpAny_holding (wpAny_bind ((strKind P w).pyHash (k := x) (is_str x u) ?_))
    refine add_any (s := { s1 with toks := s1.toks + 1 }) ho1 T (by omega) fun b h' D' l' sb ho2 T2 hl2 hm2 => ?_
    have inv2 : ∃ D l, h'.get? a = some (sObj "set" D) ∧ TxD P w D l ∧ l.length ≤ i + 1 ∧ ∀ x, x ∈ l ↔ x ∈ ks.take (i + 1) := ⟨D', l', ho2, T2, by omega, fun y => by
      rw [hm2 y, hm y, List.take_add_one, hx]
      simp only [List.mem_append, Option.toList_some, List.mem_singleton]
      exact Or.comm⟩
    refine wpAny_pure ⟨plainId_quiet F.plain_set_update_loop _, ih (i + 1) _ (by omega) lt (W.frame _ s1 _ _ st1 (Nat.le_succ _) fun b hb2 o e => ?_) inv2 fun s2 D2 l2 mv2 ho3 T3 hl3 hm3 => ?_⟩
    · exact (sb.2 b fun z : b = a => ha (by rw [← z]; exact hb2)).trans e
    · refine k s2 D2 l2 (Moved.trans W.gtrans ((mv.mono up).then_heap (Nat.le_succ _) fun b o hb2 e => ?_) mv2) ho3 T3 hl3 hm3
      exact (sb.2 b fun z : b = a => hb2 (by rw [z]; exact List.mem_cons_self)).trans e
end
end PyG
end

section
set_option Elab.async false
set_option linter.all false
set_option maxRecDepth 100000
set_option maxHeartbeats 4000000
set_option autoImplicit false
/-! set(x), x a tuple or a list of texts. -/
namespace PyG
open PySem PySem.Spec PyProof.Rows L2 PySem.Froz
section
variable {P : Program} {w : World} {A : Around} {E : Value → Shared → Prop} {s : Shared}
abbrev newS (w : World) (h : Heap) : Heap := h.push (sObj "set" (blank w))
theorem newS_at (w : World) (h : Heap) : (newS w h).get? h.objs.size = some (sObj "set" (blank w)) := Heap.get?_push_size _ rfl
theorem newS_size (w : World) (h : Heap) : (newS w h).objs.size = h.objs.size + 1 := Heap.size_push ..
/-- what stands behind set(x) -/
def Full (P : Program) (w : World) (s : Shared) (ks : List Str) (s2 : Shared) : Prop :=
  ∃ h' tk D l, s2 = { s with heap := h', toks := tk } ∧ h'.get? s.heap.objs.size = some (sObj "set" D) ∧ TxD P w D l ∧ l.length ≤ ks.length ∧ (∀ x, x ∈ l ↔ x ∈ ks) ∧ ∀ b o, s.heap.get? b = some o → h'.get? b = some o
theorem strs_at {vs : List Value} {ks : List Str} (h : StrsAre vs ks) {i : Nat} {v : Value} (e : vs[i]? = some v) : ∃ x u, ks[i]? = some x ∧ v = .str x u := by
  obtain ⟨x, u, rfl⟩ := h.all v (List.mem_of_getElem? e)
  refine ⟨x, u, ?_, rfl⟩
  rw [← h.strs, List.getElem?_map, e]
  rfl

theorem set_tuple {q : Addr} {its : Array Value} (ks : List Str) {Q : Value → Shared → Prop} (hh : A.handled = none) (hq : s.heap.IsTuple q its) (hs : StrsAre its.toList ks) (hb : ks.length + 1 < scanBound)
    (h : ∀ s2, Full P w s ks s2 → Q (.ref s.heap.objs.size) s2) : wpAny (model P w) A (call (.type "set") [.ref q]) Q E s := by
  have sz : its.size = ks.length := by rw [← Array.length_toList, hs.length]
  obtain ⟨c, tl, hmro⟩ := F.called_set.mro
  have made := F.called_set.made
  have sub := F.called_set.sub
  refine wpAny_call (codeAny_of_tree ?_)
  show wpAny _ _ (callAny (.type "set") _) _ _ _
  refine wpAny_pure ⟨Code.quiet_builtin _ (by decide +kernel), codeAny_builtin F.entry_type_call ?_⟩
  rw [Around.under_plain (weight_type_call_type "set" [.ref q] []) rfl]
  have f1 := F.called_set.notType
  have f2 := F.called_set.canCreate
  have f3 := F.typeCall_set_1 (.ref q)
  repeat (any_goals (first | assumption | wp_step))
  refine codeAny_mono (code_set_led1 (.ref q) (E := E) (Q₁ := fun ob s1 => ob = .ref s.heap.objs.size ∧ s1 = { s with heap := newS w s.heap }) ⟨rfl, rfl⟩) fun r s1 hr => ?_
  cases r with
  | error e => exact hr
  | ok fl =>
    cases fl with
    | ret ob =>
      obtain ⟨rfl, rfl⟩ := hr
      have hT : Shared.TypeIs { s with heap := newS w s.heap } (.ref s.heap.objs.size) "set" := ⟨_, newS_at w s.heap, rfl⟩
      have g1 := F.called_set.init.lookup
      have g2 := F.called_set.init.bind (.ref s.heap.objs.size)
      repeat (any_goals (first | assumption | wp_step))
      refine codeAny_mono (codeAny_call_builtin (R := wants (fun r s2 => r = .none ∧ Full P w s ks s2) E) F.called_set.init.plain F.entry_set_init (check_set_init_1 hT ?_)) fun r2 s2 hr2 => ?_
      · obtain ⟨ol, hol, hcl, nl, hdl⟩ := hq
        obtain ⟨ocls, odict, odata, oslots⟩ := ol
        simp only at hcl hdl
        subst hcl; subst hdl
        have at1 : (newS w s.heap).get? q = some { cls := .type "tuple", dict := odict, data := .seq its nl, slots := oslots } := Heap.get?_push_of_some _ hol
        have k1 := F.sub_tuple_set
        have k2 := F.sub_tuple_frozenset
        have k3 : (Value.type "tuple" == Value.type "dict") = false := by decide
        have is1 : (newS w s.heap).IsTuple q its := ⟨_, at1, rfl, nl, rfl⟩
        unfold Builtin.«set.__init__» noKeywords Builtin.Frozenset.updateFrom
        generalize hPI : pyIter = PI
        wp_walk
        subst hPI
        refine wpAny_pyIter_tuple is1 (wpAny_bind (wpAny_runValue ?_))
        have hq0 : q < s.heap.objs.size := Heap.lt_size hol
        have h3 : A.in1.in1.in1.handled = none := by simp [hh]
        have apart : q ≠ (newS w s.heap).objs.size := by rw [newS_size]; exact Nat.ne_of_lt (Nat.lt_succ_of_lt hq0)
        have nf : s.heap.objs.size ∉ [(newS w s.heap).objs.size, q] := by
          rw [newS_size]
          simp only [List.mem_cons, List.not_mem_nil, or_false, not_or]
          exact ⟨Nat.ne_of_lt (Nat.lt_succ_self _), Nat.ne_of_gt hq0⟩
        have val : ∀ (i : Nat) (v : Value), its[i]? = some v → ∃ x u, ks[i]? = some x ∧ v = .str x u := fun i v e => strs_at hs (by rw [Array.getElem?_toList]; exact e)
        refine fill ((Walks.tuple h3 _ q apart its).toS) s.heap.objs.size nf ks sz hb val (its.size - 0) 0 _ rfl (Nat.zero_le _) ⟨⟨_, Heap.get?_push_size _ rfl, rfl, rfl⟩, is1.push _⟩ ?c0 ?cR
        case c0 => exact ⟨_, [], Heap.get?_push_of_some _ (newS_at w s.heap), TxD.blank, Nat.le_refl _, fun x => by simp⟩
        case cR =>
          intro s3 D l mv ho T hl hm
          obtain ⟨h4, gs4, d4, tk4, os4⟩ := s3
          have e1 : gs4 = s.gens := mv.gens
          have e2 : d4 = s.drawn := mv.drawn
          have e3 : os4 = s.os := mv.os
          subst e1; subst e2; subst e3
          show wpAny _ _ _ _ _ _
          refine wpAny_pure ?_
          show wpAny _ _ (ret Value.none) _ _ _
          rw [sz] at hl
          refine wpAny_pure ⟨rfl, h4, tk4, D, l, rfl, ho, T, hl, hm, fun b o e => ?_⟩
          have b0 := Heap.lt_size e
          refine mv.heap b o ?_ (Heap.get?_push_of_some _ (Heap.get?_push_of_some _ e))
          simp only [List.mem_cons, List.not_mem_nil, or_false, not_or]
          exact ⟨Nat.ne_of_lt b0, by rw [newS_size]; exact Nat.ne_of_lt (Nat.lt_succ_of_lt b0)⟩
      · cases r2 with
        | error e => exact hr2
        | ok fl2 =>
          cases fl2 with
          | ret r =>
            obtain ⟨rfl, hF⟩ := hr2
            have hF2 := hF
            obtain ⟨h4, tk4, D, l, rfl, ho, T, hl, hm, k⟩ := hF2
            repeat (any_goals (first | assumption | wp_step))
            exact h _ hF
          | _ => exact hr2.elim
    | _ => exact hr.elim

theorem set_list {q : Addr} {its : Array Value} (ks : List Str) {Q : Value → Shared → Prop} (hh : A.handled = none) (hq : s.heap.IsList q its) (hs : StrsAre its.toList ks) (hb : ks.length + 1 < scanBound)
    (h : ∀ s2, Full P w s ks s2 → Q (.ref s.heap.objs.size) s2) : wpAny (model P w) A (call (.type "set") [.ref q]) Q E s := by
  have sz : its.size = ks.length := by rw [← Array.length_toList, hs.length]
  obtain ⟨c, tl, hmro⟩ := F.called_set.mro
  have made := F.called_set.made
  have sub := F.called_set.sub
  refine wpAny_call (codeAny_of_tree ?_)
  show wpAny _ _ (callAny (.type "set") _) _ _ _
  refine wpAny_pure ⟨Code.quiet_builtin _ (by decide +kernel), codeAny_builtin F.entry_type_call ?_⟩
  rw [Around.under_plain (weight_type_call_type "set" [.ref q] []) rfl]
  have f1 := F.called_set.notType
  have f2 := F.called_set.canCreate
  have f3 := F.typeCall_set_1 (.ref q)
  repeat (any_goals (first | assumption | wp_step))
  refine codeAny_mono (code_set_led1 (.ref q) (E := E) (Q₁ := fun ob s1 => ob = .ref s.heap.objs.size ∧ s1 = { s with heap := newS w s.heap }) ⟨rfl, rfl⟩) fun r s1 hr => ?_
  cases r with
  | error e => exact hr
  | ok fl =>
    cases fl with
    | ret ob =>
      obtain ⟨rfl, rfl⟩ := hr
      have hT : Shared.TypeIs { s with heap := newS w s.heap } (.ref s.heap.objs.size) "set" := ⟨_, newS_at w s.heap, rfl⟩
      have g1 := F.called_set.init.lookup
      have g2 := F.called_set.init.bind (.ref s.heap.objs.size)
      repeat (any_goals (first | assumption | wp_step))
      refine codeAny_mono (codeAny_call_builtin (R := wants (fun r s2 => r = .none ∧ Full P w s ks s2) E) F.called_set.init.plain F.entry_set_init (check_set_init_1 hT ?_)) fun r2 s2 hr2 => ?_
      · obtain ⟨ol, hol, hcl, nl, hdl⟩ := hq
        obtain ⟨ocls, odict, odata, oslots⟩ := ol
        simp only at hcl hdl
        subst hcl; subst hdl
        have at1 : (newS w s.heap).get? q = some { cls := .type "list", dict := odict, data := .seq its nl, slots := oslots } := Heap.get?_push_of_some _ hol
        have k1 := F.sub_list_set
        have k2 := F.sub_list_frozenset
        have k3 : (Value.type "list" == Value.type "dict") = false := by decide
        have is1 : (newS w s.heap).IsList q its := ⟨_, at1, rfl, nl, rfl⟩
        unfold Builtin.«set.__init__» noKeywords Builtin.Frozenset.updateFrom
        generalize hPI : pyIter = PI
        wp_walk
        subst hPI
        refine wpAny_pyIter_list is1 (wpAny_bind (wpAny_runValue ?_))
        have hq0 : q < s.heap.objs.size := Heap.lt_size hol
        have h3 : A.in1.in1.in1.handled = none := by simp [hh]
        have apart : q ≠ (newS w s.heap).objs.size := by rw [newS_size]; exact Nat.ne_of_lt (Nat.lt_succ_of_lt hq0)
        have nf : s.heap.objs.size ∉ [(newS w s.heap).objs.size, q] := by
          rw [newS_size]
          simp only [List.mem_cons, List.not_mem_nil, or_false, not_or]
          exact ⟨Nat.ne_of_lt (Nat.lt_succ_self _), Nat.ne_of_gt hq0⟩
        have val : ∀ (i : Nat) (v : Value), its[i]? = some v → ∃ x u, ks[i]? = some x ∧ v = .str x u := fun i v e => strs_at hs (by rw [Array.getElem?_toList]; exact e)
        refine fill ((Walks.list h3 _ q apart its).toS) s.heap.objs.size nf ks sz hb val (its.size - 0) 0 _ rfl (Nat.zero_le _) ⟨⟨_, Heap.get?_push_size _ rfl, rfl, rfl⟩, is1.push _⟩ ?c0 ?cR
        case c0 => exact ⟨_, [], Heap.get?_push_of_some _ (newS_at w s.heap), TxD.blank, Nat.le_refl _, fun x => by simp⟩
        case cR =>
          intro s3 D l mv ho T hl hm
          obtain ⟨h4, gs4, d4, tk4, os4⟩ := s3
          have e1 : gs4 = s.gens := mv.gens
          have e2 : d4 = s.drawn := mv.drawn
          have e3 : os4 = s.os := mv.os
          subst e1; subst e2; subst e3
          show wpAny _ _ _ _ _ _
          refine wpAny_pure ?_
          show wpAny _ _ (ret Value.none) _ _ _
          rw [sz] at hl
          refine wpAny_pure ⟨rfl, h4, tk4, D, l, rfl, ho, T, hl, hm, fun b o e => ?_⟩
          have b0 := Heap.lt_size e
          refine mv.heap b o ?_ (Heap.get?_push_of_some _ (Heap.get?_push_of_some _ e))
          simp only [List.mem_cons, List.not_mem_nil, or_false, not_or]
          exact ⟨Nat.ne_of_lt b0, by rw [newS_size]; exact Nat.ne_of_lt (Nat.lt_succ_of_lt b0)⟩
      · cases r2 with
        | error e => exact hr2
        | ok fl2 =>
          cases fl2 with
          | ret r =>
            obtain ⟨rfl, hF⟩ := hr2
            have hF2 := hF
            obtain ⟨h4, tk4, D, l, rfl, ho, T, hl, hm, k⟩ := hF2
            repeat (any_goals (first | assumption | wp_step))
            exact h _ hF
          | _ => exact hr2.elim
    | _ => exact hr.elim

/-- the values of a set's walk are the set's texts -/
theorem walk_strs {D : SD} {l : List Str} {vs : List Value} (T : TxD P w D l) (pm : vs.Perm (D.1.toList.map (·.2))) : StrsAre vs (vs.map strOf) ∧ (vs.map strOf).Perm l := by
  refine ⟨strsAre_map vs fun v hv => ?_, ?_⟩
  · obtain ⟨e, he, ev⟩ := List.mem_map.mp (pm.mem_iff.mp hv)
    obtain ⟨k, u, e2⟩ := T.tx e he
    exact ⟨k, u, ev.symm.trans e2⟩
  · have z := pm.map strOf
    rw [List.map_map] at z
    exact z.trans T.pm
theorem sorted_txt {a : Addr} {D : SD} {l : List Str} {Q : Value → Shared → Prop} (ho : s.heap.get? a = some (sObj "set" D)) (T : TxD P w D l) (hh : A.handled = none) (few : l.length < scanBound)
    (hQ : ∀ s' p (out : Array Value) (c : Nat) (xs : List Str), (∀ b o, s.heap.get? b = some o → s'.heap.get? b = some o) → s'.gens = s.gens → s'.os = s.os → s.heap.objs.size ≤ p →
      s'.heap.get? p = some (seqObj "list" out c) → StrsAre out.toList xs → sortedS xs = true → xs.Perm l → Q (.ref p) s') : wpAny (model P w) A (call (.builtin "sorted") [.ref a]) Q E s := by
  obtain ⟨es, ep, t⟩ := D
  have few2 : es.size < scanBound := by
    have z : es.size = l.length := T.ok.sz
    omega
  refine Calls.call_function_entry kind_sorted plain_sorted entry_sorted (args_sorted1 _) ?_
  unfold Builtin.«sorted»
  refine wpAny_bind (m := checkCount "sorted" 1 1 _) (wpAny_pure (wpAny_bind ?_))
  refine collect_set (A := A.in1) (es := es) (ep := ep) (t := t) hh ⟨_, ho, rfl, rfl⟩ T.ok.fit few2 T.ris T.led fun s1 vs k1 z1 gs1 os1 pm => ?_
  obtain ⟨hst, hpm⟩ := walk_strs T pm
  have len : vs.length = l.length := by rw [← hpm.length_eq, List.length_map]
  have lim : vs.length ≤ sizeLine := by rw [len]; exact fits_of_scanBound few
  refine wpAny_bind (wpAny_newList ?_ lim)
  have at1 : (s1.heap.push (seqObj "list" vs.toArray 0)).get? s1.heap.objs.size = some (seqObj "list" vs.toArray 0) := Heap.get?_push_size _ rfl
  refine wpAny_bind (wpAny_holding (wpAny_call_entry slot_list_sort ⟨_, at1, rfl⟩ entry_list_sort (list_sort_treeKAny strKind_oneLt at1 hst.keysOf (fun v1 v2 rest e => keyKind_strs (by rw [← e]; exact hst)) lim fun st' p1 p2 => ⟨_, rfl, ?_⟩) (args_list_sort _)))
  obtain ⟨xs, a1, a2, a3⟩ := sorted_out_str hst p1 p2
  obtain ⟨c, hc⟩ := sortedHeap_at (vs := vs) (out := (arrOf st').map (·.2)) at1
  refine wpAny_pure ⟨_, rfl, hQ _ s1.heap.objs.size _ c xs (fun b u e => ?_) gs1 os1 z1 hc a1 a3 (a2.trans hpm)⟩
  have e1 := k1 b u e
  have lt := Heap.lt_size e1
  show (sortedHeap (s1.heap.push (seqObj "list" vs.toArray 0)) s1.heap.objs.size vs _).get? b = some u
  rw [sortedHeap_old (Nat.ne_of_lt lt) (by rw [size_push']; exact Nat.lt_succ_of_lt lt)]
  exact Heap.get?_push_of_some _ e1
end
end PyG
end

section
set_option Elab.async false
set_option linter.all false
set_option maxRecDepth 100000
set_option autoImplicit false
/-! Soundness of the operators. -/
namespace Py
open PySem L2

theorem sS_length (s : List Char) : (sS s).length = s.length := by simp [sS, Str.length]
theorem sS_append (s t : List Char) : sS s ++ sS t = sS (s ++ t) := by
  show Str.append (sS s) (sS t) = _
  simp [sS, Str.append]
theorem toNat_inj {c d : Char} (h : c.toNat = d.toNat) : c = d := Char.toNat_inj.mp h
theorem map_toNat_inj {s t : List Char} (h : s.map Char.toNat = t.map Char.toNat) : s = t := by
  induction s generalizing t with
  | nil => cases t with
    | nil => rfl
    | cons _ _ => cases h
  | cons c s ih => cases t with
    | nil => cases h
    | cons d t =>
      simp only [List.map_cons, List.cons.injEq] at h
      rw [toNat_inj h.1, ih h.2]
theorem sS_inj {s t : List Char} (h : sS s = sS t) : s = t := by
  unfold sS at h
  injection h with h
  exact map_toNat_inj (by simpa using congrArg Array.toList h)
theorem sS_list (s : List Char) : (sS s).cps.toList = s.map Char.toNat := by simp [sS]
theorem mutOf_ref {a : Nat} {g : G} {r : Nat} {xs : List D} (h : mutOf (.ref a) g = some (r, xs)) : r = a ∧ g[a]? = some (.lst xs) := by
  unfold mutOf at h
  dsimp only at h
  split at h
  · rename_i ys e; cases h; exact ⟨rfl, e⟩
  · cases h
theorem mutOf_inv {d : D} {g : G} {r : Nat} {xs : List D} (h : mutOf d g = some (r, xs)) : d = .ref r ∧ g[r]? = some (.lst xs) := by
  cases d with
  | ref a => obtain ⟨e, q⟩ := mutOf_ref h; subst e; exact ⟨rfl, q⟩
  | _ => cases h
section
variable {X : Cx}
theorem newL_post {K : PySem.W.Frag} {H : Hp} {ι : List Addr} {g : G} {xs : List D} {vs : List V} {Q : VK} (s : SR_ K H ι g) (r : Reps K H ι xs vs)
    (k : ∀ v H' ι', Ext K H H' ι ι' → SR_ K H' ι' (g ++ [.lst xs]) → Rep K H' ι' (.ref g.length) v → Q v H') : ∀ p, H p = none → Q (.ref p) (upd H p (.lst vs)) := fun q hq =>
  k _ _ (ι ++ [q]) ((Ext.new hq).trans Ext.snoc) (s.newL hq r) (.ref (by rw [← s.len]; simp))
theorem newT_post {K : PySem.W.Frag} {H : Hp} {ι : List Addr} {g : G} {xs : List D} {vs : List V} {Q : VK} (s : SR_ K H ι g) (r : Reps K H ι xs vs)
    (k : ∀ v H' ι', Ext K H H' ι ι' → SR_ K H' ι' g → Rep K H' ι' (.tup xs) v → Q v H') : ∀ p, H p = none → Q (.ref p) (upd H p (.tup vs)) := fun q hq =>
  k _ _ ι (Ext.new hq) (s.new hq) (.tup (SqT.of upd_same) (r.ext (Ext.new hq)))
theorem o_add : OpR X (binaryOp .Add) (rD X.K oAdd) := by
  intro pins s σ H x y v u Q I rx ry h
  obtain ⟨d1, d2, g, ι, sr, r1, r2, d, g', e, k⟩ := h
  cases r1 with
  | int i =>
    cases r2 with
    | int j => cases e; exact op_add pins s σ H _ _ v u Q I rx ry ⟨i, j, rfl, rfl, k _ H ι Ext.refl sr (.int _)⟩
    | _ => simp [oAdd] at e
  | str a =>
    cases r2 with
    | str b =>
      unfold oAdd at e
      dsimp only at e
      split at e
      · rename_i hl
        cases e
        refine op_add_str pins s σ H _ _ v u Q I rx ry ⟨_, _, rfl, rfl, by rw [sS_length, sS_length, line_eq]; exact hl, ?_⟩
        rw [sS_append]
        exact k _ H ι Ext.refl sr (.str _)
      · cases e
    | _ => simp [oAdd] at e
  | @tup ds vs a hd rd =>
    cases r2 with
    | @tup es ws b he re =>
      unfold oAdd at e
      dsimp only at e
      split at e
      · rename_i hl
        cases e
        refine op_catA pins s σ H _ _ v u Q I rx ry ⟨a, b, vs, ws, rfl, rfl, hd, he, by rw [← rd.len, ← re.len, line_eq]; exact hl, fun z => ?_, fun z1 z2 => ?_, fun z1 z2 => ?_⟩
        · have : ds = [] := List.eq_nil_of_length_eq_zero (by rw [rd.len, z]; rfl)
          subst this
          exact k _ H ι Ext.refl sr (.tup he re)
        · have : es = [] := List.eq_nil_of_length_eq_zero (by rw [re.len, z2]; rfl)
          subst this
          rw [List.append_nil] at k
          exact k _ H ι Ext.refl sr (.tup hd rd)
        · exact newT_post sr (rd.append re) k
      · cases e
    | _ => simp [oAdd] at e
  | @ref r a ha =>
    cases r2 with
    | @ref r' b hb =>
      unfold oAdd at e
      dsimp only at e
      split at e
      · rename_i _ _ q1 xs q2 ys m1 m2
        obtain ⟨_, g1⟩ := mutOf_ref m1
        obtain ⟨_, g2⟩ := mutOf_ref m2
        obtain ⟨vs, h1, rr1⟩ := sr.lst ha g1
        obtain ⟨ws, h2, rr2⟩ := sr.lst hb g2
        split at e
        · rename_i hl
          cases e
          exact op_cat pins s σ H _ _ v u Q I rx ry ⟨a, b, vs, ws, rfl, rfl, h1, h2, by rw [← rr1.len, ← rr2.len, line_eq]; exact hl, newL_post sr (rr1.append rr2) k⟩
        · cases e
      · cases e
    | _ => simp [oAdd] at e
  | _ => simp [oAdd] at e
theorem o_sub : OpR X (binaryOp .Sub) (rD X.K oSub) := by
  intro pins s σ H x y v u Q I rx ry h
  obtain ⟨d1, d2, g, ι, sr, r1, r2, d, g', e, k⟩ := h
  cases r1 with
  | int i =>
    cases r2 with
    | int j => cases e; exact op_sub pins s σ H _ _ v u Q I rx ry ⟨i, j, rfl, rfl, k _ H ι Ext.refl sr (.int _)⟩
    | _ => simp [oSub] at e
  | _ => simp [oSub] at e
theorem mulOk_ok {i j : Int} (h : mulOk i j = true) : PySem.IntMulOk i j := by
  have b : ∀ x : Int, Builtin.Int.intBits x ≤ x.natAbs.log2 + 1 := fun x => by
    unfold Builtin.Int.intBits
    split <;> omega
  have h1 := b i
  have h2 := b j
  have h3 : i.natAbs.log2 + j.natAbs.log2 < 100000000 := of_decide_eq_true h
  have e : bitsLine = 134217728 := by decide
  unfold PySem.IntMulOk
  intro z
  rw [Bool.and_eq_true] at z
  have z2 := z.2
  unfold Builtin.Int.intTooBig at z2
  have z3 := of_decide_eq_true z2
  rw [e] at z3
  omega
theorem o_mulI : OpR X (binaryOp .Mult) (rI (fun i j => mulOk i j = true) fun i j => .int (i * j)) := opI fun i j _ _ _ _ _ hc q => PyProof.Rows.mul_int q (mulOk_ok hc)
theorem foldl_cat (n : Nat) (x : Array Nat) : ∀ z : Array Nat, ((List.replicate n x).foldl (· ++ ·) z) = z ++ (List.replicate n x.toList).flatten.toArray := by
  induction n with
  | zero => intro z; simp
  | succ n ih => intro z; rw [List.replicate_succ, List.foldl_cons, ih, List.replicate_succ, List.flatten_cons]; simp only [Array.append_assoc]; congr 1; apply Array.toList_inj.mp; simp
theorem txt_mul {a : List Char} {n : Int} (h : 2 ≤ n) : Txt.mul (sS a) n = sS (List.replicate n.toNat a).flatten := by
  unfold Txt.mul
  rw [if_neg (by omega)]
  split
  · rename_i z
    rw [Bool.or_eq_true] at z
    rcases z with z | z
    · simp at z; omega
    · have z' : (sS a).length = 0 := by simpa using z
      rw [sS_length] at z'
      have : a = [] := List.eq_nil_of_length_eq_zero z'
      subst this
      congr 1
      induction n.toNat with
      | zero => rfl
      | succ m ih => rw [List.replicate_succ, List.flatten_cons, List.nil_append]; exact ih
  · rw [foldl_cat]
    unfold sS
    congr 1
    simp [List.map_flatten, List.map_replicate]
theorem o_mulS : OpR X (binaryOp .Mult) (fun x y H Q => ∃ a n, x = .str (sS a) ∧ y = .int n ∧ 2 ≤ n ∧ n ≤ 1000 ∧ a.length ≤ 1000 ∧ Q (.str (sS (List.replicate n.toNat a).flatten)) H) := by
  intro pins s σ H x y v u Q I rx ry h
  obtain ⟨a, n, rfl, rfl, h1, h2, h3, q⟩ := h
  obtain ⟨t, rfl⟩ := rx
  obtain ⟨t', rfl⟩ := ry
  have hprod : (a.length : Int) * n ≤ 1000000 := by
    have a1 : (a.length : Int) * n ≤ 1000 * n := Int.mul_le_mul_of_nonneg_right (by omega) (by omega)
    omega
  refine SB.mul ⟨?_, fun z1 z2 => ?_, fun z1 z2 => ?_⟩ fun t' k => ?_
  · rw [Bool.or_eq_false_iff]
    exact ⟨decide_eq_false (by omega), decide_eq_false (by omega)⟩
  · rw [sS_length]
    have : (a.length : Int) ≤ (2 ^ 63 - 1) / n := by
      rw [Int.le_ediv_iff_mul_le (by omega)]
      omega
    omega
  · rw [sS_length]
    unfold Builtin.Str.tooLong
    have : a.length * n.toNat ≤ 1000 * 1000 := Nat.mul_le_mul h3 (by omega)
    have e := line_eq
    unfold LINE at e
    simp only [decide_eq_false_iff_not]
    omega
  · rw [txt_mul h1]
    exact ⟨.str (sS (List.replicate n.toNat a).flatten), H, I.tok k, ⟨t', rfl⟩, q⟩
theorem o_mul : OpR X (binaryOp .Mult) (rD X.K oMul) := by
  intro pins s σ H x y v u Q I rx ry h
  obtain ⟨d1, d2, g, ι, sr, r1, r2, d, g', e, k⟩ := h
  cases r2 with
  | int j =>
    cases r1 with
    | int i =>
      unfold oMul at e
      dsimp only at e
      split at e
      · rename_i hc
        cases e
        exact o_mulI pins s σ H _ _ v u Q I rx ry ⟨i, j, rfl, rfl, hc, k _ H ι Ext.refl sr (.int _)⟩
      · cases e
    | str a =>
      unfold oMul at e
      dsimp only at e
      split at e
      · rename_i hc
        cases e
        exact o_mulS pins s σ H _ _ v u Q I rx ry ⟨a, j, rfl, rfl, hc.1, hc.2.1, hc.2.2, k _ H ι Ext.refl sr (.str _)⟩
      · cases e
    | @tup ds vs a hd rd =>
      unfold oMul at e
      dsimp only at e
      split at e
      · rename_i hc
        cases e
        have hr : Reps X.K H ι (List.replicate j.toNat ds).flatten (List.replicate j.toNat vs).flatten := by
          induction j.toNat with
          | zero => exact .nil
          | succ m ih => rw [List.replicate_succ, List.replicate_succ, List.flatten_cons, List.flatten_cons]; exact rd.append ih
        exact op_repT pins s σ H _ _ v u Q I rx ry ⟨a, j, vs, rfl, rfl, hd, fun z => hc.2.2.2 (by rw [rd.len, z]; rfl), hc.1, hc.2.1, by rw [← rd.len]; exact hc.2.2.1, newT_post sr hr k⟩
      · cases e
    | @ref r a ha =>
      unfold oMul at e
      dsimp only at e
      split at e
      · rename_i q1 xs m1
        obtain ⟨_, g1⟩ := mutOf_ref m1
        obtain ⟨vs, h1, rr1⟩ := sr.lst ha g1
        split at e
        · rename_i hc
          cases e
          have hr : Reps X.K H ι (List.replicate j.toNat xs).flatten (List.replicate j.toNat vs).flatten := by
            induction j.toNat with
            | zero => exact .nil
            | succ m ih => rw [List.replicate_succ, List.replicate_succ, List.flatten_cons, List.flatten_cons]; exact rr1.append ih
          exact op_rep pins s σ H _ _ v u Q I rx ry ⟨a, j, vs, rfl, rfl, h1, by omega, by omega, by rw [← rr1.len, line_eq]; exact hc.2.2, newL_post sr hr k⟩
        · cases e
      · cases e
    | _ => simp [oMul] at e
  | _ => cases r1 <;> simp [oMul] at e
theorem o_fdiv : OpR X (binaryOp .FloorDiv) (rD X.K oFdiv) := by
  intro pins s σ H x y v u Q I rx ry h
  obtain ⟨d1, d2, g, ι, sr, r1, r2, d, g', e, k⟩ := h
  cases r1 with
  | int i =>
    cases r2 with
    | int j =>
      unfold oFdiv at e
      dsimp only at e
      split at e
      · rename_i hc
        cases e
        exact op_fdivW pins s σ H _ _ v u Q I rx ry ⟨i, j, rfl, rfl, hc, k _ H ι Ext.refl sr (.int _)⟩
      · cases e
    | _ => simp [oFdiv] at e
  | _ => simp [oFdiv] at e
theorem o_mod : OpR X (binaryOp .Mod) (rD X.K oMod) := by
  intro pins s σ H x y v u Q I rx ry h
  obtain ⟨d1, d2, g, ι, sr, r1, r2, d, g', e, k⟩ := h
  cases r1 with
  | int i =>
    cases r2 with
    | int j =>
      unfold oMod at e
      dsimp only at e
      split at e
      · rename_i hc
        cases e
        exact op_mod pins s σ H _ _ v u Q I rx ry ⟨i, j, rfl, rfl, hc, k _ H ι Ext.refl sr (.int _)⟩
      · cases e
    | _ => simp [oMod] at e
  | _ => simp [oMod] at e
theorem intBits_le (x : Int) : Builtin.Int.intBits x ≤ x.natAbs.log2 + 1 := by
  unfold Builtin.Int.intBits
  split <;> omega
theorem o_powI : OpR X (binaryOp .Pow) (rI (fun i j => powOk i j = true) fun i j => .int (i ^ j.toNat)) := opI fun i j _ _ _ _ _ hc q => by
  have hc' : 0 ≤ j ∧ ((i.natAbs.log2 + 1 : Nat) : Int) * j ≤ 134217728 := of_decide_eq_true hc
  refine PyProof.Rows.pow_int hc'.1 ?_ q
  have h1 := intBits_le i
  have h2 : ((Builtin.Int.intBits i : Nat) : Int) * j ≤ ((i.natAbs.log2 + 1 : Nat) : Int) * j := Int.mul_le_mul_of_nonneg_right (by omega) hc'.1
  have : (2 : Int) ^ 27 = 134217728 := by decide
  omega
theorem o_pow : OpR X (binaryOp .Pow) (rD X.K oPow) := by
  intro pins s σ H x y v u Q I rx ry h
  obtain ⟨d1, d2, g, ι, sr, r1, r2, d, g', e, k⟩ := h
  cases r1 with
  | int i =>
    cases r2 with
    | int j =>
      unfold oPow at e
      dsimp only at e
      split at e
      · rename_i hc
        cases e
        exact o_powI pins s σ H _ _ v u Q I rx ry ⟨i, j, rfl, rfl, hc, k _ H ι Ext.refl sr (.int _)⟩
      · cases e
    | _ => simp [oPow] at e
  | _ => simp [oPow] at e
theorem o_neg : UnR X (unaryOp .USub) (rD1 X.K oNeg) := by
  intro pins s σ H x v Q I rx h
  obtain ⟨d1, g, ι, sr, r1, d, g', e, k⟩ := h
  cases r1 with
  | int i => cases e; exact un_neg pins s σ H _ v Q I rx ⟨i, rfl, k _ H ι Ext.refl sr (.int _)⟩
  | _ => simp [oNeg] at e
/-! ### comparisons -/
theorem o_int {op : CmpOp} {p : Int → Int → Bool} {f : B2} (h : OpR X (compareOp op) (rI0 fun i j => .bl (p i j))) (hf : ∀ x y g d, f x y g = some d → ∃ i j, x = .int i ∧ y = .int j ∧ d = .bl (p i j)) : OpR X (compareOp op) (rD X.K (p2 f)) := by
  intro pins s σ H x y v u Q I rx ry q
  obtain ⟨d1, d2, g, ι, sr, r1, r2, d, e, k⟩ := q.pure
  obtain ⟨i, j, rfl, rfl, rfl⟩ := hf _ _ _ _ e
  cases r1
  cases r2
  exact h pins s σ H _ _ v u Q I rx ry ⟨i, j, rfl, rfl, k _ (.bl _)⟩
theorem o_lt : OpR X (compareOp .Lt) (rD X.K (p2 oLt)) := o_int op_lt fun x y g d h => by
  cases x <;> cases y <;> simp [oLt] at h
  exact ⟨_, _, rfl, rfl, h.symm⟩
theorem o_le : OpR X (compareOp .LtE) (rD X.K (p2 oLe)) := o_int op_le fun x y g d h => by
  cases x <;> cases y <;> simp [oLe] at h
  exact ⟨_, _, rfl, rfl, h.symm⟩
theorem o_gt : OpR X (compareOp .Gt) (rD X.K (p2 oGt)) := o_int op_gt fun x y g d h => by
  cases x <;> cases y <;> simp [oGt] at h
  exact ⟨_, _, rfl, rfl, h.symm⟩
theorem o_ge : OpR X (compareOp .GtE) (rD X.K (p2 oGe)) := o_int op_ge fun x y g d h => by
  cases x <;> cases y <;> simp [oGe] at h
  exact ⟨_, _, rfl, rfl, h.symm⟩
theorem rep_non {K H ι} {d : D} {v : V} (r : Rep K H ι d v) : (v = .non ↔ d = .non) := by
  cases r <;> simp
theorem o_isN : OpR X (compareOp .Is) (rD X.K (p2 oIsN)) := by
  intro pins s σ H x y v u Q I rx ry q
  obtain ⟨d1, d2, g, ι, sr, r1, r2, d, e, k⟩ := q.pure
  cases d2 with
  | non =>
    cases r2
    refine op_isN pins s σ H _ _ v u Q I rx ry ⟨rfl, ?_⟩
    have hb : d = .bl (decide (x = .non)) := by
      have z := rep_non r1
      cases r1 <;> simp [oIsN] at e ⊢ <;> exact e.symm
    subst hb
    exact k _ (.bl _)
  | _ => cases d1 <;> simp [oIsN] at e
theorem o_notN : OpR X (compareOp .IsNot) (rD X.K (p2 oNotN)) := by
  intro pins s σ H x y v u Q I rx ry q
  obtain ⟨d1, d2, g, ι, sr, r1, r2, d, e, k⟩ := q.pure
  cases d2 with
  | non =>
    cases r2
    refine op_notN pins s σ H _ _ v u Q I rx ry ⟨rfl, ?_⟩
    have hb : d = .bl (!decide (x = .non)) := by
      have z := rep_non r1
      cases r1 <;> simp [oNotN] at e ⊢ <;> exact e.symm
    subst hb
    exact k _ (.bl _)
  | _ => cases d1 <;> simp [oNotN] at e
end
end Py
end

section
set_option Elab.async false
set_option linter.all false
set_option maxRecDepth 100000
set_option autoImplicit false
/-! Soundness of == and in. -/
namespace Py
open PySem L2

mutual
def P.py : P → PyData
  | .non => .none
  | .bl b => .bool b
  | .int i => .int i
  | .str s => .str (sS s)
  | .tup ds => .tuple (P.pys ds)
  | .lst ds => .list (P.pys ds)
def P.pys : List P → List PyData
  | [] => []
  | p :: r => P.py p :: P.pys r
end
theorem sS_beq (s t : List Char) : (sS s == sS t) = (s == t) := by
  by_cases h : s = t
  · subst h; simp
  · rw [beq_eq_false_iff_ne.mpr h]
    exact beq_eq_false_iff_ne.mpr fun e => h (sS_inj e)
mutual
theorem P.eqv_py : ∀ p q : P, PyData.eqv p.py q.py = P.eqv p q
  | .non, q => by cases q <;> simp [P.py, PyData.eqv, P.eqv]
  | .bl a, q => by cases q <;> simp [P.py, PyData.eqv, P.eqv, b2i]
  | .int a, q => by cases q <;> simp [P.py, PyData.eqv, P.eqv, b2i]
  | .str a, q => by
    cases q with
    | str b => simp only [P.py, PyData.eqv, P.eqv]; exact sS_beq a b
    | _ => simp [P.py, PyData.eqv, P.eqv]
  | .tup a, q => by
    cases q with
    | tup b => simp only [P.py, PyData.eqv, P.eqv]; exact P.eqvs_py a b
    | _ => simp [P.py, PyData.eqv, P.eqv]
  | .lst a, q => by
    cases q with
    | lst b => simp only [P.py, PyData.eqv, P.eqv]; exact P.eqvs_py a b
    | _ => simp [P.py, PyData.eqv, P.eqv]
theorem P.eqvs_py : ∀ p q : List P, PyData.eqvAll (P.pys p) (P.pys q) = P.eqvs p q
  | [], q => by cases q <;> simp [P.pys, PyData.eqvAll, P.eqvs]
  | p :: r, q => by
    cases q with
    | nil => simp [P.pys, PyData.eqvAll, P.eqvs]
    | cons q s => simp only [P.pys, PyData.eqvAll, P.eqvs]; rw [P.eqv_py p q, P.eqvs_py r s]
end
theorem char_lt (c : Char) : c.toNat < 1114112 := by
  have h := c.valid
  have e : c.toNat = c.val.toNat := rfl
  simp only [UInt32.isValidChar, Nat.isValidChar] at h
  omega
mutual
theorem P.lay : ∀ p : P, p.py.canLay0 = true
  | .non => by simp [P.py, PyData.canLay0]
  | .bl _ => by simp [P.py, PyData.canLay0]
  | .int _ => by simp [P.py, PyData.canLay0]
  | .str s => by
    simp only [P.py, PyData.canLay0]
    unfold PyData.strOk
    rw [Array.all_eq_true_iff_forall_mem]
    intro c hc
    simp [sS] at hc
    obtain ⟨a, _, rfl⟩ := hc
    exact decide_eq_true (char_lt a)
  | .tup ds => by simp only [P.py, PyData.canLay0]; exact P.lays ds
  | .lst ds => by simp only [P.py, PyData.canLay0]; exact P.lays ds
theorem P.lays : ∀ p : List P, PyData.canLayAll0 (P.pys p) = true
  | [] => by simp [P.pys, PyData.canLayAll0]
  | p :: r => by simp only [P.pys, PyData.canLayAll0, P.lay p, P.lays r, Bool.and_self]
end
theorem viewL_some {f : D → Option P} {d : D} {ds : List D} {ps : List P} (h : viewL f (d :: ds) = some ps) : ∃ p qs, ps = p :: qs ∧ f d = some p ∧ viewL f ds = some qs := by
  unfold viewL at h
  split at h
  · rename_i p qs h1 h2; cases h; exact ⟨p, qs, rfl, h1, h2⟩
  · cases h
theorem depth_view (g : G) : ∀ (n : Nat) (d : D) (p : P), view g n d = some p → p.py.depth ≤ n := by
  intro n
  induction n with
  | zero =>
    intro d p h
    cases d <;> simp [view] at h <;> subst h <;> simp [P.py, PyData.depth]
  | succ n ih =>
    have all : ∀ (ds : List D) (ps : List P), viewL (view g n) ds = some ps → PyData.depthAll (P.pys ps) ≤ n := by
      intro ds
      induction ds with
      | nil => intro ps h; cases h; simp [P.pys, PyData.depthAll]
      | cons d ds ih2 =>
        intro ps h
        obtain ⟨p, qs, rfl, h1, h2⟩ := viewL_some h
        simp only [P.pys, PyData.depthAll]
        exact Nat.max_le.mpr ⟨ih d p h1, ih2 qs h2⟩
    intro d p h
    cases d with
    | tup ds =>
      simp only [view, Option.map_eq_some_iff] at h
      obtain ⟨ps, h1, rfl⟩ := h
      simp only [P.py, PyData.depth]
      have := all ds ps h1
      omega
    | ref r =>
      simp only [view] at h
      split at h
      · simp only [Option.map_eq_some_iff] at h
        obtain ⟨ps, h1, rfl⟩ := h
        simp only [P.py, PyData.depth]
        have := all _ ps h1
        omega
      · cases h
    | adr _ => simp [view] at h
    | _ => simp [view] at h; subst h; simp [P.py, PyData.depth]
theorem depth_views (g : G) (n : Nat) (ds : List D) (ps : List P) (h : viewL (view g n) ds = some ps) : PyData.depthAll (P.pys ps) ≤ n := by
  induction ds generalizing ps with
  | nil => cases h; simp [P.pys, PyData.depthAll]
  | cons d ds ih2 =>
    obtain ⟨p, qs, rfl, h1, h2⟩ := viewL_some h
    simp only [P.pys, PyData.depthAll]
    exact Nat.max_le.mpr ⟨depth_view g n d p h1, ih2 qs h2⟩
section
variable {K : PySem.W.Frag} {H : Hp} {ι : List Addr} {g : G}
theorem dp_view (s : SR_ K H ι g) : ∀ (n : Nat) (d : D) (p : P) (v : V), view g n d = some p → Rep K H ι d v → Dp K H v p.py := by
  intro n
  induction n with
  | zero =>
    intro d p v h r
    cases r <;> simp [view] at h <;> subst h
    · exact .non
    · exact .bl _
    · exact .int _
    · exact .str _
  | succ n ih =>
    have all : ∀ (ds : List D) (ps : List P) (vs : List V), viewL (view g n) ds = some ps → Reps K H ι ds vs → DpAll K H vs (P.pys ps) := by
      intro ds
      induction ds with
      | nil => intro ps vs h r; cases r; cases h; exact .nil
      | cons d ds ih2 =>
        intro ps vs h r
        obtain ⟨p, qs, rfl, h1, h2⟩ := viewL_some h
        cases r with
        | cons r1 r2 => exact .cons (ih d p _ h1 r1) (ih2 qs _ h2 r2)
    intro d p v h r
    cases r with
    | adr _ => simp [view] at h
    | non => simp [view] at h; subst h; exact .non
    | bl b => simp [view] at h; subst h; exact .bl _
    | int b => simp [view] at h; subst h; exact .int _
    | str b => simp [view] at h; subst h; exact .str _
    | tup hs hr =>
      simp only [view, Option.map_eq_some_iff] at h
      obtain ⟨ps, h1, rfl⟩ := h
      exact .tup hs (all _ ps _ h1 hr)
    | @ref r a ha =>
      simp only [view] at h
      split at h
      · rename_i xs hx
        simp only [Option.map_eq_some_iff] at h
        obtain ⟨ps, h1, rfl⟩ := h
        obtain ⟨a', vs, e, hs, hr⟩ := s.list (.ref ha) hx
        cases e
        exact .lst hs (all _ ps _ h1 hr)
      · cases h
theorem dp_views (s : SR_ K H ι g) (n : Nat) (ds : List D) (ps : List P) (vs : List V) (h : viewL (view g n) ds = some ps) (r : Reps K H ι ds vs) : DpAll K H vs (P.pys ps) := by
  induction ds generalizing ps vs with
  | nil => cases r; cases h; exact .nil
  | cons d ds ih =>
    obtain ⟨p, qs, rfl, h1, h2⟩ := viewL_some h
    cases r with
    | cons r1 r2 => exact .cons (dp_view s n d p _ h1 r1) (ih qs _ h2 r2)
end
theorem shaped_view {g : G} {d : D} {p : P} (h : view g 60 d = some p) : SeqAt.shaped p.py = true := by
  unfold SeqAt.shaped
  rw [P.lay p, Bool.true_and]
  have := depth_view g 60 d p h
  exact decide_eq_true (by omega)
theorem shaped_views {g : G} {ds : List D} {ps : List P} (h : viewL (view g 60) ds = some ps) : SeqAt.shaped (.list (P.pys ps)) = true := by
  unfold SeqAt.shaped
  simp only [PyData.canLay0, P.lays ps, Bool.true_and, PyData.depth]
  have := depth_views g 60 ds ps h
  exact decide_eq_true (by omega)
theorem any_py (p : P) : ∀ ps : List P, ((P.pys ps).any fun z => PyData.eqv z p.py) = ps.any fun q => P.eqv q p
  | [] => by simp [P.pys]
  | q :: r => by simp only [P.pys, List.any_cons]; rw [P.eqv_py q p, any_py p r]
section
variable {X : Cx}
theorem o_eq {k : Nat} (hr : Room k X.A) : OpR X (compareOp .Eq) (rD X.K (p2 oEq)) := by
  intro pins s σ H x y v u Q I rx ry q
  obtain ⟨d1, d2, g, ι, sr, r1, r2, d, e, k⟩ := q.pure
  simp only [oEq, Option.map_eq_some_iff, eqD] at e
  obtain ⟨b, e, rfl⟩ := e
  split at e
  · rename_i p q h1 h2
    cases e
    refine op_eqD hr.units pins s σ H _ _ v u Q I rx ry ⟨p.py, q.py, dp_view sr 60 _ _ _ h1 r1, dp_view sr 60 _ _ _ h2 r2, shaped_view h1, shaped_view h2, ?_⟩
    rw [P.eqv_py]
    exact k _ (.bl _)
  · cases e
theorem o_ne {k : Nat} (hr : Room k X.A) : OpR X (compareOp .NotEq) (rD X.K (p2 oNe)) := by
  intro pins s σ H x y v u Q I rx ry q
  obtain ⟨d1, d2, g, ι, sr, r1, r2, d, e, k⟩ := q.pure
  simp only [oNe, Option.map_eq_some_iff, eqD] at e
  obtain ⟨b, e, rfl⟩ := e
  split at e
  · rename_i p q h1 h2
    cases e
    refine op_neD hr.units pins s σ H _ _ v u Q I rx ry ⟨p.py, q.py, dp_view sr 60 _ _ _ h1 r1, dp_view sr 60 _ _ _ h2 r2, shaped_view h1, shaped_view h2, ?_⟩
    rw [P.eqv_py]
    exact k _ (.bl _)
  · cases e
theorem flat_rep {K H ι} {d : D} {v : V} (r : Rep K H ι d v) : flatV v = true ↔ flat d = true := by
  cases r <;> simp [flatV, flat]
theorem dec_sS (a b : List Char) : (sS a == sS b) = (a == b) := sS_beq a b
theorem eqF_rep {K H ι} {d e : D} {v u : V} (r : Rep K H ι d v) (q : Rep K H ι e u) : eqV v u = eqF d e := by
  cases r <;> cases q <;> simp [eqV, eqF, b2i]
  exact sS_beq _ _
theorem inF_rep {K H ι} {d : D} {v : V} (r : Rep K H ι d v) : ∀ {ds : List D} {vs : List V}, Reps K H ι ds vs → inV v vs = ds.any fun y => eqF y d
  | _, _, .nil => rfl
  | _, _, .cons h t => by
    have ih := inF_rep r t
    unfold inV at ih ⊢
    rw [List.any_cons, List.any_cons, eqF_rep h r, ih]
theorem flats_rep {K H ι} : ∀ {ds : List D} {vs : List V}, Reps K H ι ds vs → ds.all flat = true → vs.all flatV = true
  | _, _, .nil, _ => rfl
  | _, _, .cons h t, f => by
    rw [List.all_cons, Bool.and_eq_true] at f ⊢
    exact ⟨(flat_rep h).mpr f.1, flats_rep t f.2⟩
/-- in, in three kinds -/
theorem in_cases {g : G} {x y : D} {b : Bool} (h : inD x y g = some b) : (∃ c t, x = .str [c] ∧ y = .str t ∧ b = decide (c ∈ t)) ∨
    (∃ ds, y = .tup ds ∧ flat x = true ∧ ds.all flat = true ∧ b = ds.any fun z => eqF z x) ∨
    (∃ r xs p ps, y = .ref r ∧ lstOf (.ref r) g = some xs ∧ view g 60 x = some p ∧ viewL (view g 60) xs = some ps ∧ b = ps.any fun q => P.eqv q p) := by
  unfold inD at h
  split at h
  · cases h; exact .inl ⟨_, _, rfl, rfl, rfl⟩
  · split at h
    · rename_i hf
      rw [Bool.and_eq_true] at hf
      cases h
      exact .inr (.inl ⟨_, rfl, hf.1, hf.2, rfl⟩)
    · cases h
  · split at h
    · rename_i xs h1
      split at h
      · rename_i p ps h2 h3
        cases h
        exact .inr (.inr ⟨_, xs, p, ps, rfl, h1, h2, h3, rfl⟩)
      · cases h
    · cases h
  · cases h
theorem mem_sign {c : Char} {t : List Char} : (c.toNat ∈ (sS t).cps.toList) ↔ c ∈ t := by
  rw [sS_list]
  constructor
  · intro h
    obtain ⟨a, ha, e⟩ := List.mem_map.mp h
    rw [← toNat_inj e]; exact ha
  · exact fun h => List.mem_map_of_mem h
theorem sS_one (c : Char) : sS [c] = ⟨#[c.toNat]⟩ := rfl
theorem o_in {k : Nat} (hr : Room k X.A) : OpR X (compareOp .In) (rD X.K (p2 oIn)) := by
  intro pins s σ H x y v u Q I rx ry q
  obtain ⟨d1, d2, g, ι, sr, r1, r2, d, e, k⟩ := q.pure
  simp only [oIn, Option.map_eq_some_iff] at e
  obtain ⟨b, e, rfl⟩ := e
  rcases in_cases e with ⟨c, t, rfl, rfl, rfl⟩ | ⟨ds, rfl, f1, f2, rfl⟩ | ⟨r, xs, p, ps, rfl, h1, h2, h3, rfl⟩
  · cases r1
    cases r2
    refine op_in_sign pins s σ H _ _ v u Q I rx ry ⟨c.toNat, sS t, rfl, rfl, ?_⟩
    rw [decide_eq_decide.mpr mem_sign]
    exact k _ (.bl _)
  · cases r2 with
    | tup ht hd =>
      refine op_in_seq pins s σ H _ _ v u Q I rx ry ⟨_, _, rfl, .inr ht, (flat_rep r1).mpr f1, flats_rep hd f2, ?_⟩
      rw [if_neg Bool.false_ne_true, inF_rep r1 hd]
      exact k _ (.bl _)
  · obtain ⟨a, vs, rfl, hs, hrr⟩ := sr.list r2 h1
    refine op_inD (by have := hr.un; omega) pins s σ H _ _ v u Q I rx ry ⟨p.py, P.pys ps, dp_view sr 60 _ _ _ h2 r1, .lst hs (dp_views sr 60 _ _ _ h3 hrr), shaped_view h2, shaped_views h3, ?_⟩
    rw [any_py]
    exact k _ (.bl _)
theorem o_notIn {k : Nat} (hr : Room k X.A) : OpR X (compareOp .NotIn) (rD X.K (p2 oNotIn)) := by
  intro pins s σ H x y v u Q I rx ry q
  obtain ⟨d1, d2, g, ι, sr, r1, r2, d, e, k⟩ := q.pure
  simp only [oNotIn, Option.map_eq_some_iff] at e
  obtain ⟨b, e, rfl⟩ := e
  rcases in_cases e with ⟨c, t, rfl, rfl, rfl⟩ | ⟨ds, rfl, f1, f2, rfl⟩ | ⟨r, xs, p, ps, rfl, h1, h2, h3, rfl⟩
  · cases r1
    cases r2
    refine op_notIn_sign pins s σ H _ _ v u Q I rx ry ⟨c.toNat, sS t, rfl, rfl, ?_⟩
    rw [decide_eq_decide.mpr mem_sign]
    exact k _ (.bl _)
  · cases r2 with
    | tup ht hd =>
      refine op_notIn_seq pins s σ H _ _ v u Q I rx ry ⟨_, _, rfl, .inr ht, (flat_rep r1).mpr f1, flats_rep hd f2, ?_⟩
      rw [if_pos rfl, inF_rep r1 hd]
      exact k _ (.bl _)
  · obtain ⟨a, vs, rfl, hs, hrr⟩ := sr.list r2 h1
    refine op_notInD (by have := hr.un; omega) pins s σ H _ _ v u Q I rx ry ⟨p.py, P.pys ps, dp_view sr 60 _ _ _ h2 r1, .lst hs (dp_views sr 60 _ _ _ h3 hrr), shaped_view h2, shaped_views h3, ?_⟩
    rw [any_py]
    exact k _ (.bl _)
end
end Py
end

section
set_option Elab.async false
set_option linter.all false
set_option maxRecDepth 100000
set_option autoImplicit false
/-! Soundness of subscripts, slices, built-ins, append. -/
namespace Py
open PySem L2
section
variable {X : Cx} {W : WX} {a b c e : Expr} {es : List Expr} {pos : Pos} {ma mb mc m : M} {as : A}
theorem ix_eq (n : Nat) (i : Int) : L2.ixN n i = ix n i := rfl
theorem atI_rep {K H ι} {ds : List D} {vs : List V} {i : Int} {d : D} (r : Reps K H ι ds vs) (h : atI ds i = some d) : ∃ v, L2.atI vs i = some v ∧ Rep K H ι d v := by
  unfold atI at h
  unfold L2.atI
  rw [ix_eq, ← r.len]
  cases e : ix ds.length i with
  | none => rw [e] at h; cases h
  | some j =>
    rw [e] at h
    obtain ⟨v, h1, h2⟩ := r.get h
    exact ⟨v, h1, h2⟩
theorem i_idx : IxR X (rD X.K (p2 oIdx)) := by
  intro a b pins s σ H x y v u Q I rx ry q hs
  obtain ⟨d1, d2, g, ι, sr, r1, r2, d, e, k⟩ := q.pure
  cases d2 with
  | int i =>
    cases r2
    cases r1 with
    | str z =>
      unfold oIdx at e
      dsimp only at e
      split at e
      · rename_i hl
        simp only [Option.map_eq_some_iff] at e
        obtain ⟨c, h1, rfl⟩ := e
        refine ix_str a b pins s σ H _ _ v u Q I rx ry ⟨sS z, i, c.toNat, rfl, rfl, by rw [sS_length, line_eq]; exact hl, ?_, k _ (.str [c])⟩ hs
        rw [sS_list]
        unfold L2.atI
        unfold atI at h1
        rw [List.length_map, ix_eq]
        cases e : ix z.length i with
        | none => rw [e] at h1; cases h1
        | some j =>
          rw [e] at h1
          have h1' : z[j]? = some c := h1
          show (z.map Char.toNat)[j]? = some c.toNat
          rw [List.getElem?_map, h1']; rfl
      · cases e
    | @tup ds vs p ht hr =>
      have e : atI ds i = some d := e
      obtain ⟨w, h1, h2⟩ := atI_rep hr e
      exact ix_tup a b pins s σ H _ _ v u Q I rx ry ⟨p, vs, i, w, rfl, rfl, ht, h1, k _ h2⟩ hs
    | @ref r p hp =>
      have e : ((lstOf (.ref r) g).bind fun xs => atI xs i) = some d := e
      cases hl : lstOf (.ref r) g with
      | none => rw [hl] at e; cases e
      | some xs =>
        rw [hl] at e
        obtain ⟨a', vs, ee, hq, hr⟩ := sr.list (.ref hp) hl
        cases ee
        obtain ⟨w, h1, h2⟩ := atI_rep hr e
        exact ix_list a b pins s σ H _ _ v u Q I rx ry ⟨p, vs, i, w, rfl, rfl, hq, h1, k _ h2⟩ hs
    | _ => simp [oIdx] at e
  | _ => cases d1 <;> simp [oIdx] at e
theorem e_idx (ha : EE X W a ma) (hb : EE X W b mb) (hs : PlainIx b := by exact fun _ _ => rfl) : EE X W (.Subscript a b pos) (mOp (p2 oIdx) ma mb) := (pe_ix i_idx ha hb hs).mono fun _ _ _ h => two h
/-! ### slices -/
theorem sIx_eq (n d : Nat) (o : Option Int) : HT.sIx n d o = sIx n d o := by cases o <;> rfl
theorem cut_rep {K H ι} {ds : List D} {vs : List V} (r : Reps K H ι ds vs) (lo hi : Option Int) : Reps K H ι (cut ds lo hi) (cutV vs lo hi) := by
  unfold cut cutV
  rw [sIx_eq, sIx_eq, ← r.len]
  exact (r.drop _).take _
def rSl (K : PySem.W.Frag) : V → Option Int → Option Int → Hp → VK → Prop := fun x lo hi H Q => ∃ d1 g ι, SR_ K H ι g ∧ Rep K H ι d1 x ∧ ∃ d g', oSl d1 lo hi g = some (d, g') ∧ ∀ v H' ι', Ext K H H' ι ι' → SR_ K H' ι' g' → Rep K H' ι' d v → Q v H'
theorem i_sl : SlR X (rSl X.K) := by
  intro pins s σ H x v vl vu lo hi sl Q I rx hs pl pu h
  obtain ⟨d1, g, ι, sr, r1, d, g', e, k⟩ := h
  cases r1 with
  | str z =>
    unfold oSl at e
    dsimp only at e
    split at e
    · rename_i hl
      cases e
      refine sl_str pins s σ H _ v vl vu lo hi sl Q I rx hs pl pu ⟨sS z, rfl, by rw [sS_length, line_eq]; exact hl, ?_⟩
      have : cutS (sS z) lo hi = sS (cut z lo hi) := by
        unfold cutS sS cut
        rw [sIx_eq, sIx_eq]
        simp [Str.length, List.map_take, List.map_drop]
      rw [this]
      exact k _ H ι Ext.refl sr (.str _)
    · cases e
  | @tup ds vs p ht hr =>
    cases e
    refine sl_tupA pins s σ H _ v vl vu lo hi sl Q I rx hs pl pu ⟨p, vs, rfl, ht, fun hw => ?_, fun _ => newT_post sr (cut_rep hr lo hi) k⟩
    have : cut ds lo hi = ds := by
      unfold cut
      rw [← sIx_eq, ← sIx_eq, hr.len, hw.1, hw.2]
      simp [← hr.len]
    rw [this] at k
    exact k _ H ι Ext.refl sr (.tup ht hr)
  | @ref r p hp =>
    unfold oSl at e
    simp only [Option.map_eq_some_iff] at e
    obtain ⟨xs, h1, h2⟩ := e
    cases h2
    obtain ⟨a', vs, ee, hq, hr⟩ := sr.list (.ref hp) h1
    cases ee
    exact sl_list pins s σ H _ v vl vu lo hi sl Q I rx hs pl pu ⟨p, vs, rfl, hq, newL_post sr (cut_rep hr lo hi) k⟩
  | _ => simp [oSl] at e
/-- a part of a slice -/
def tO (K : PySem.W.Frag) (mg : Str → Option Value) (W : WX) (m : Option M) : TO := fun σ H Q => ∃ ρ g ι, ER K H ι ρ σ ∧ SR_ K H ι g ∧ Post K mg W σ H ι (mIx m ρ g) fun o _ H' _ => Q o H'
abbrev OO (X : Cx) (W : WX) (e : Option Expr) (m : Option M) : Prop := PO X e (tO X.K X.mg W m)
theorem oo_none : OO X W none none := ⟨fun pins s σ H Q I ⟨ρ, g, ι, er, sr, p⟩ => po_none.run pins s σ H Q I (p.ok sr)⟩
theorem oo_some (h : EE X W e m) : OO X W (some e) (some m) := ⟨fun pins s σ H Q I ⟨ρ, g, ι, er, sr, p⟩ => (po_some h).run pins s σ H Q I ⟨ρ, g, ι, er, sr, (Post.bind p).imp fun d1 g1 H1 ι1 _ x1 s1 p1 v1 r1 => by
  obtain ⟨i, hi, p2⟩ := Post.ofP' p1
  cases asI_some hi
  exact ⟨i, r1.int_inv, p2.ok s1⟩⟩⟩
theorem e_sl {lo hi : Option Expr} {ml mh : Option M} {p2 : Pos} (ha : EE X W a ma) (hl : OO X W lo ml) (hh : OO X W hi mh) : EE X W (.Subscript a (.Slice lo hi none p2) pos) (mSl ma ml mh) := (pe_slice i_sl ha hl hh).mono fun σ H Q ⟨ρ, g, ι, er, s, p⟩ => by
  refine ⟨ρ, g, ι, er, s, (Post.bind p).imp fun d1 g1 H1 ι1 _ x1 s1 p1 v1 r1 => ⟨ρ, g1, ι1, er.ext x1, s1, (Post.bind p1).imp fun l g2 H2 ι2 _ x2 s2 p2 => ⟨ρ, g2, ι2, (er.ext x1).ext x2, s2, (Post.bind p2).imp fun h g3 H3 ι3 _ x3 s3 p3 => ?_⟩⟩⟩
  obtain ⟨d, g', e, k⟩ := p3.ofO
  exact ⟨d1, g3, ι3, s3, (r1.ext x2).ext x3, d, g', e, fun v H' ι' x s' r => k H' ι' x s' v r⟩
/-! ### built-ins of one argument, of two -/
def rC1 (K : PySem.W.Frag) (f : N1) : List V → Hp → VK → Prop := fun xs H Q => ∃ x, xs = [x] ∧ rD1 K f x H Q
def rC2 (K : PySem.W.Frag) (f : N2) : List V → Hp → VK → Prop := fun xs H Q => ∃ x y, xs = [x, y] ∧ rD K f x y H Q
variable {x : Str} {p : Pos} {id T : String}
theorem e_b1 {f : N1} (hc : CallR X (.builtin id) (rC1 X.K f)) (hm : X.mg x = none) (hv : bootBuiltins x = some (.builtin id)) (ha : EE X W a ma) (hg : Gl X x := by rfl) (hn : x ≠ "__name__" := by decide) (hdb : (x == ("__debug__" : Str)) = false := by decide)
    (hs : starEach [a] X.env = (false, eval a X.env) :: starEach [] X.env := by rfl) : EE X W (.Call (.Name x p) [a] [] pos) (mUn f ma) :=
  (pe_callB hc hg hm hv (pa_cons ha pa_nil hs) hn hdb hs (by rfl)).mono fun σ H Q h => by
    obtain ⟨ρ, g, ι, er, s, p⟩ := one h
    exact ⟨ρ, g, ι, er, s, p.imp fun d1 g1 H1 ι1 _ x1 s1 p1 v1 r1 => ⟨v1, rfl, p1 v1 r1⟩⟩
theorem e_t1 {f : N1} (hc : CallR X (.type T) (rC1 X.K f)) (hm : X.mg x = none) (hv : bootBuiltins x = some (.type T)) (ha : EE X W a ma) (hg : Gl X x := by rfl) (hn : x ≠ "__name__" := by decide) (hdb : (x == ("__debug__" : Str)) = false := by decide)
    (hs : starEach [a] X.env = (false, eval a X.env) :: starEach [] X.env := by rfl) : EE X W (.Call (.Name x p) [a] [] pos) (mUn f ma) :=
  (pe_callTy hc hg hm hv (pa_cons ha pa_nil hs) hn hdb hs (by rfl)).mono fun σ H Q h => by
    obtain ⟨ρ, g, ι, er, s, p⟩ := one h
    exact ⟨ρ, g, ι, er, s, p.imp fun d1 g1 H1 ι1 _ x1 s1 p1 v1 r1 => ⟨v1, rfl, p1 v1 r1⟩⟩
theorem e_b2 {f : N2} (hc : CallR X (.builtin id) (rC2 X.K f)) (hm : X.mg x = none) (hv : bootBuiltins x = some (.builtin id)) (ha : EE X W a ma) (hb : EE X W b mb) (hg : Gl X x := by rfl) (hn : x ≠ "__name__" := by decide) (hdb : (x == ("__debug__" : Str)) = false := by decide)
    (hs : starEach [a, b] X.env = (false, eval a X.env) :: starEach [b] X.env := by rfl) (hs' : starEach [b] X.env = (false, eval b X.env) :: starEach [] X.env := by rfl) (hp : (backTo pos (starEach [b] X.env)).any (·.1) = false := by rfl) : EE X W (.Call (.Name x p) [a, b] [] pos) (mOp f ma mb) :=
  (pe_callB hc hg hm hv (pa_cons ha (pa_cons hb pa_nil hs') hs) hn hdb hs hp).mono fun σ H Q h => by
    obtain ⟨ρ, g, ι, er, s, p⟩ := two h
    refine ⟨ρ, g, ι, er, s, p.imp fun d1 g1 H1 ι1 _ x1 s1 p1 v1 r1 => ?_⟩
    obtain ⟨ρ2, g2, ι2, er2, s2, p2⟩ := p1 v1 r1
    exact ⟨ρ2, g2, ι2, er2, s2, p2.imp fun d3 g3 H3 ι3 _ x3 s3 p3 v3 r3 => ⟨v1, v3, rfl, p3 v3 r3⟩⟩
theorem c_int : CallR X (.type "int") (rC1 X.K (p1 oInt)) := by
  intro pins s σ H xs us Q I r h
  obtain ⟨x, rfl, h⟩ := h
  obtain ⟨d1, g, ι, sr, r1, d, e, k⟩ := h.pure
  cases r1 with
  | int i => cases e; exact call_int1 pins s σ H _ us Q I r (.inl ⟨i, rfl, k _ (.int _)⟩)
  | bl b => cases e; exact call_int1 pins s σ H _ us Q I r (.inr ⟨b, rfl, k _ (.int _)⟩)
  | _ => simp [oInt] at e
theorem c_len : CallR X (.builtin "len") (rC1 X.K (p1 oLen)) := by
  intro pins s σ H xs us Q I r h
  obtain ⟨x, rfl, h⟩ := h
  obtain ⟨d1, g, ι, sr, r1, d, e, k⟩ := h.pure
  simp only [oLen, Option.map_eq_some_iff] at e
  obtain ⟨n, e, rfl⟩ := e
  cases r1 with
  | str z =>
    unfold lenD at e
    dsimp only at e
    split at e
    · rename_i hl
      cases e
      refine call_len_str pins s σ H _ us Q I r ⟨sS z, rfl, by rw [sS_length, line_eq]; exact hl, ?_⟩
      rw [sS_length]
      exact k _ (.int _)
    · cases e
  | @tup ds vs p ht hr =>
    cases e
    refine call_len_seq pins s σ H _ us Q I r ⟨p, vs, rfl, .inr ht, ?_⟩
    rw [← hr.len]
    exact k _ (.int _)
  | @ref q p hp =>
    simp only [lenD, Option.map_eq_some_iff] at e
    obtain ⟨xs, h1, rfl⟩ := e
    obtain ⟨a', vs, ee, hq, hr⟩ := sr.list (.ref hp) h1
    cases ee
    refine call_len_seq pins s σ H _ us Q I r ⟨p, vs, rfl, .inl hq, ?_⟩
    rw [← hr.len]
    exact k _ (.int _)
  | _ => simp [lenD] at e
theorem c_ord : CallR X (.builtin "ord") (rC1 X.K (p1 oOrd)) := by
  intro pins s σ H xs us Q I r h
  obtain ⟨x, rfl, h⟩ := h
  obtain ⟨d1, g, ι, sr, r1, d, e, k⟩ := h.pure
  cases r1 with
  | str z =>
    unfold oOrd at e
    split at e
    · rename_i c hc
      cases hc
      cases e
      exact call_ord pins s σ H _ us Q I r ⟨sS [c], rfl, rfl, k _ (.int _)⟩
    · cases e
  | _ => simp [oOrd] at e
theorem c_min (hc : X.calm = true) : CallR X (.builtin "min") (rC2 X.K (p2 oMin)) := by
  intro pins s σ H xs us Q I r h
  obtain ⟨x, y, rfl, h⟩ := h
  obtain ⟨d1, d2, g, ι, sr, r1, r2, d, e, k⟩ := h.pure
  cases d1 <;> cases d2 <;> simp [oMin] at e
  cases r1
  cases r2
  exact call_min2 hc pins s σ H _ us Q I r ⟨_, _, rfl, k _ (by rw [← e]; exact .int _)⟩
theorem c_max (hc : X.calm = true) : CallR X (.builtin "max") (rC2 X.K (p2 oMax)) := by
  intro pins s σ H xs us Q I r h
  obtain ⟨x, y, rfl, h⟩ := h
  obtain ⟨d1, d2, g, ι, sr, r1, r2, d, e, k⟩ := h.pure
  cases d1 <;> cases d2 <;> simp [oMax] at e
  cases r1
  cases r2
  exact call_max2 hc pins s σ H _ us Q I r ⟨_, _, rfl, k _ (by rw [← e]; exact .int _)⟩
theorem c_tuple : CallR X (.type "tuple") (rC1 X.K oTuple) := by
  intro pins s σ H xs us Q I r h
  obtain ⟨x, rfl, d1, g, ι, sr, r1, d, g', e, k⟩ := h
  simp only [oTuple, Option.map_eq_some_iff] at e
  obtain ⟨ds, e, h2⟩ := e
  cases h2
  cases r1 with
  | @tup ds' vs p ht hr => cases e; exact call_tuple_of pins s σ H _ us Q I r ⟨p, vs, rfl, .inr ⟨ht, k _ H ι Ext.refl sr (.tup ht hr)⟩⟩
  | @ref q p hp =>
    obtain ⟨a', vs, ee, hq, hr⟩ := sr.list (.ref hp) (by unfold lstOf; unfold seqOf at e; exact e)
    cases ee
    exact call_tuple_of pins s σ H _ us Q I r ⟨p, vs, rfl, .inl ⟨hq, newT_post sr hr k⟩⟩
  | _ => simp [seqOf] at e
theorem c_list : CallR X (.type "list") (rC1 X.K oList) := by
  intro pins s σ H xs us Q I r h
  obtain ⟨x, rfl, d1, g, ι, sr, r1, d, g', e, k⟩ := h
  simp only [oList, Option.map_eq_some_iff] at e
  obtain ⟨ds, e, h2⟩ := e
  cases h2
  obtain ⟨p, vs, rfl, hq, hr⟩ := sr.seq r1 e
  exact call_list_of pins s σ H _ us Q I r ⟨p, vs, rfl, hq, newL_post sr hr k⟩
/-! ### isinstance -/
def tyName : Ty → String | .int => "int" | .bool => "bool" | .str => "str" | .tuple => "tuple" | .list => "list"
def tyName' : Option Ty → String | none => "NoneType" | some t => tyName t
theorem kit_ty' (t : Ty) (u : Option Ty) : kitB (tyName' u) (tyName t) = some (isTy t u) := by
  cases t <;> cases u <;> first
    | decide +kernel
    | (rename_i w; cases w <;> decide +kernel)
theorem tyx_of {K H ι g} {d : D} {v : V} {u : Option Ty} (s : SR_ K H ι g) (r : Rep K H ι d v) (h : tyOf d g = some u) : TyX K H v (.type (tyName' u)) := by
  cases r with
  | adr _ => cases h
  | non => cases h; exact .base .non
  | bl b => cases h; exact .base (.bl b)
  | int i => cases h; exact .base (.int i)
  | str x => cases h; exact .base (.str _)
  | @tup ds vs a ht hr =>
    cases h
    rcases ht with (ht | ⟨o, ht⟩) | ⟨o, its, n, h1, h2, _⟩
    · exact .base (.tup ht)
    · exact .fTuple ht
    · exact .kTuple h1 h2
  | @ref q a ha =>
    unfold tyOf at h
    dsimp only at h
    split at h
    · rename_i xs e
      cases h
      obtain ⟨vs, h1, _⟩ := s.lst ha e
      exact .base (.lst h1)
    · rename_i xs e
      cases h
      obtain ⟨vs, h1, _⟩ := s.frz ha e
      rcases h1 with ⟨o, h1⟩ | ⟨o, its, n, h1, h2, _⟩
      · exact .base (.frz h1)
      · exact .kList h1 h2
    · cases h
theorem e_isi (t : Ty) {y : Str} {p' : Pos} (hm : X.mg "isinstance" = none) (hm' : X.mg y = none) (hv' : bootBuiltins y = some (.type (tyName t))) (ha : EE X W a ma) (hg : Gl X "isinstance" := by rfl) (hg' : Gl X y := by rfl) (hn' : y ≠ "__name__" := by decide) (hdb' : (y == ("__debug__" : Str)) = false := by decide)
    (hs : starEach [a, .Name y p'] X.env = (false, eval a X.env) :: starEach [.Name y p'] X.env := by rfl) (hs' : starEach [.Name y p'] X.env = (false, eval (.Name y p') X.env) :: starEach [] X.env := by rfl)
    (hp : (backTo pos (starEach [.Name y p'] X.env)).any (·.1) = false := by rfl) : EE X W (.Call (.Name "isinstance" p) [a, .Name y p'] [] pos) (mUn (p1 (oIsi t)) ma) := by
  have hb : PE X (.Name y p') (tC (.ty (tyName t))) := pe_bltn hg' hm' hv' rfl hn' hdb'
  refine (pe_callB call_isi hg hm (by decide +kernel) (pa_cons ha (pa_cons hb pa_nil hs') hs) (by decide) (by decide) hs hp).mono fun σ H Q h => ?_
  obtain ⟨ρ, g, ι, er, s, q⟩ := one h
  refine ⟨ρ, g, ι, er, s, q.imp fun d1 g1 H1 ι1 _ x1 s1 q1 v1 r1 => ?_⟩
  obtain ⟨d2, g2, ι2, s2, r2, d, e, k⟩ := (q1 v1 r1).pure
  simp only [oIsi, Option.map_eq_some_iff] at e
  obtain ⟨u, e, rfl⟩ := e
  exact ⟨v1, .ty (tyName t), .type (tyName' u), .type (tyName t), isTy t u, rfl, ClsV.ty _, tyx_of s2 r2 e, kit_ty (kit_ty' t u), k _ (.bl _)⟩
/-! ### append -/
theorem e_app {apos : Pos} {o : Expr} {mo : M} (ho : EE X W o mo) (he : EE X W e m)
    (hbase : attributeBase o "append" X.env (eval o X.env) = eval o X.env := by rfl)
    (hfew : ((backTo pos (starEach [e] X.env)).all (fun x => !x.1) && (backToKw pos (keywordEach [] X.env)).all (fun x => x.1.isSome) && decide ([e].length + ([] : List Keyword).length + (if ([] : List Keyword).isEmpty then 0 else 1) < 30)) = true := by rfl)
    (hline : (apos.endLine == pos.line) = true := by rfl) (hs : starEach [e] X.env = (false, eval e X.env) :: starEach [] X.env := by rfl) : EE X W (.Call (.Attribute o "append" apos) [e] [] pos) (mApp mo m) := by
  refine (pe_bm PySem.F.plainAttrs_list PySem.F.slot_list_append PySem.F.type_list_append mt_append ho (pa_cons he pa_nil hs) hbase hfew hline hs (by rfl)).mono fun σ H Q ⟨ρ, g, ι, er, s, p⟩ => ?_
  refine ⟨ρ, g, ι, er, s, (Post.bind p).imp fun d1 g1 H1 ι1 _ x1 s1 p1 v1 r1 => ?_⟩
  split at p1
  · rename_i hl
    obtain ⟨xs, hx⟩ := Option.isSome_iff_exists.mp hl
    obtain ⟨a', vs, e1, hq, hr⟩ := s1.list r1 hx
    subst e1
    refine ⟨.inl ⟨rfl, vs, hq⟩, ρ, g1, ι1, er.ext x1, s1, (Post.bind p1).imp fun d2 g2 H2 ι2 _ x2 s2 p2 v2 r2 => ?_⟩
    obtain ⟨d, g', e2, k⟩ := p2.ofO
    unfold oAppend at e2
    split at e2
    · rename_i r ys hm
      split at e2
      · rename_i hz
        cases e2
        obtain ⟨e3, hg⟩ := mutOf_inv hm
        subst e3
        have r1' := r1.ext x2
        cases r1' with
        | ref ha =>
          obtain ⟨ws, h1, h2⟩ := s2.lst ha hg
          refine ⟨a', ws, v2, rfl, rfl, h1, by rw [← h2.len, line_eq]; exact hz, ?_⟩
          exact k _ ι2 (Ext.wr h1) (s2.wrL hg ha (h2.append (.cons r2 .nil)) h1) _ .non
      · cases e2
    · cases e2
  · exact p1.elim
end
end Py
namespace Py
open PySem L2
/-! ### the greatest, the least -/
section
variable {X : Cx}
theorem allI_some : ∀ {ds : List D} {is : List Int}, allI ds = some is → ds = is.map D.int
  | [], is, h => by cases h; rfl
  | d :: r, is, h => by
    cases d with
    | int i =>
      simp only [allI, Option.map_eq_some_iff] at h
      obtain ⟨js, h1, rfl⟩ := h
      rw [allI_some h1]; rfl
    | _ => cases h
theorem reps_ints {K H ι} : ∀ {is : List Int} {vs : List V}, Reps K H ι (is.map D.int) vs → vs = is.map V.int
  | [], _, r => by cases r; rfl
  | i :: is, _, r => by
    cases r with
    | cons h t => cases h; rw [reps_ints t]; rfl
theorem maxI_is : ∀ {is : List Int} {m : Int}, maxI is = some m → m ∈ is ∧ ∀ y ∈ is, y ≤ m
  | [], m, h => by cases h
  | i :: r, m, h => by
    unfold maxI at h
    cases hr : maxI r with
    | none =>
      rw [hr] at h
      cases h
      cases r with
      | nil => simp
      | cons j r => unfold maxI at hr; split at hr <;> cases hr
    | some k =>
      rw [hr] at h
      obtain ⟨h1, h2⟩ := maxI_is hr
      have h' : (if i < k then k else i) = m := Option.some.inj h
      by_cases hik : i < k
      · rw [if_pos hik] at h'
        subst h'
        exact ⟨List.mem_cons_of_mem _ h1, fun y hy => (List.mem_cons.mp hy).elim (fun e => by omega) (h2 y)⟩
      · rw [if_neg hik] at h'
        subst h'
        exact ⟨List.mem_cons_self, fun y hy => (List.mem_cons.mp hy).elim (fun e => by omega) fun z => by have := h2 y z; omega⟩
theorem minI_is : ∀ {is : List Int} {m : Int}, minI is = some m → m ∈ is ∧ ∀ y ∈ is, m ≤ y
  | [], m, h => by cases h
  | i :: r, m, h => by
    unfold minI at h
    cases hr : minI r with
    | none =>
      rw [hr] at h
      cases h
      cases r with
      | nil => simp
      | cons j r => unfold minI at hr; split at hr <;> cases hr
    | some k =>
      rw [hr] at h
      obtain ⟨h1, h2⟩ := minI_is hr
      have h' : (if k < i then k else i) = m := Option.some.inj h
      by_cases hik : k < i
      · rw [if_pos hik] at h'
        subst h'
        exact ⟨List.mem_cons_of_mem _ h1, fun y hy => (List.mem_cons.mp hy).elim (fun e => by omega) (h2 y)⟩
      · rw [if_neg hik] at h'
        subst h'
        exact ⟨List.mem_cons_self, fun y hy => (List.mem_cons.mp hy).elim (fun e => by omega) fun z => by have := h2 y z; omega⟩
/-- max, min of a tuple of ints, over the heap -/
theorem best_tup {P : Program} {w : World} {A : Around} {E : Value → Shared → Prop} {s : Shared} {l : Addr} {xs : Array (Int × Tok)} {Q : Value → Shared → Prop} (hh : A.handled = none) (hl : s.heap.IsTuple l (intItems xs)) (hne : 0 < xs.size) :
    ((∀ v h' tk, (intItems xs)[argBest (fun i j => decide (numAt xs i > numAt xs j)) (xs.size - 1)]? = some v → (∀ b o, s.heap.get? b = some o → h'.get? b = some o) → Q v { s with heap := h', toks := tk }) → wpAny (model P w) A (call (.builtin "max") [.ref l]) Q E s) ∧
    ((∀ v h' tk, (intItems xs)[argBest (fun i j => decide (numAt xs i < numAt xs j)) (xs.size - 1)]? = some v → (∀ b o, s.heap.get? b = some o → h'.get? b = some o) → Q v { s with heap := h', toks := tk }) → wpAny (model P w) A (call (.builtin "min") [.ref l]) Q E s) := by
  have hlt : l < s.heap.objs.size := by obtain ⟨_, e, _⟩ := hl; exact Heap.lt_size e
  have hl2 : ∀ x, (s.heap.push x).IsTuple l (intItems xs) := fun x => by
    obtain ⟨o, e, q⟩ := hl
    exact ⟨o, Heap.get?_push_of_some _ e, q⟩
  have fp : ∀ x, ∀ b ∈ [s.heap.objs.size, l], b < (s.heap.push x).objs.size := fun x b hb => by
    rw [Heap.size_push]
    rcases List.mem_cons.mp hb with e | hb
    · rw [e]; exact Nat.lt_succ_self _
    · rw [List.mem_singleton.mp hb]; exact Nat.lt_succ_of_lt hlt
  have old : ∀ {h' : Heap} {x : Obj}, (∀ b o, b ∉ [s.heap.objs.size] → (s.heap.push x).get? b = some o → h'.get? b = some o) → ∀ b o, s.heap.get? b = some o → h'.get? b = some o := fun {h' x} hk b o e =>
    hk b o (fun hm => absurd (Heap.lt_size e) (by rw [List.mem_singleton.mp hm]; exact Nat.lt_irrefl _)) (Heap.get?_push_of_some _ e)
  have st : (s.heap.push { cls := .type "tuple_iterator", data := .fields #[.ref l, .int 0 0] }).IsTupleIter s.heap.objs.size l 0 := ⟨_, Heap.get?_push_size _ rfl, rfl, rfl⟩
  have sz : 0 < (intItems xs).size := by simpa [intItems] using hne
  have eqsz : (intItems xs).size = xs.size := by simp [intItems]
  refine ⟨fun h => call_max_walk (wpAny_pyIter_tuple hl ?_), fun h => call_min_walk (wpAny_pyIter_tuple hl ?_)⟩
  · refine ⟨_, _, _, _, _, _, _, rfl, Walks.tuple (A := A.in1) hh s.heap.objs.size l (Nat.ne_of_lt hlt) (intItems xs), ⟨st, hl2 _⟩, fp _, sz, CmpOf.ints_gt (numAt xs) (fun _ _ => intItems_at), fun v h' tk hP hk => ?_⟩
    rw [eqsz] at hP
    exact h v h' tk hP (old hk)
  · refine ⟨_, _, _, _, _, _, _, rfl, Walks.tuple (A := A.in1) hh s.heap.objs.size l (Nat.ne_of_lt hlt) (intItems xs), ⟨st, hl2 _⟩, fp _, sz, CmpOf.ints_lt (numAt xs) (fun _ _ => intItems_at), fun v h' tk hP hk => ?_⟩
    rw [eqsz] at hP
    exact h v h' tk hP (old hk)
/-- .. told by the ints -/
theorem best_ints {P : Program} {w : World} {A : Around} {E : Value → Shared → Prop} {s : Shared} {l : Addr} {its : List Value} {ns : List Int} {Q : Value → Shared → Prop} (hh : A.handled = none) (hl : s.heap.IsTuple l its.toArray) (hi : PyProof.Rows.IntsAre its ns) (hne : 0 < ns.length) :
    ((∀ h' tk M t', (∀ b o, s.heap.get? b = some o → h'.get? b = some o) → M ∈ ns → (∀ a, a ∈ ns → a ≤ M) → Q (.int M t') { s with heap := h', toks := tk }) → wpAny (model P w) A (call (.builtin "max") [.ref l]) Q E s) ∧
    ((∀ h' tk M t', (∀ b o, s.heap.get? b = some o → h'.get? b = some o) → M ∈ ns → (∀ a, a ∈ ns → M ≤ a) → Q (.int M t') { s with heap := h', toks := tk }) → wpAny (model P w) A (call (.builtin "min") [.ref l]) Q E s) := by
  obtain ⟨xs, e⟩ := hi.allInts.items
  have hn : numsOf (intItems xs).toList = ns := by rw [← e]; exact hi.numsOf
  rw [nums_intItems] at hn
  subst hn
  rw [e] at hl
  have hsz : 0 < xs.size := by simpa using hne
  obtain ⟨b1, b2⟩ := best_tup (P := P) (w := w) (E := E) (Q := Q) hh hl hsz
  have mem : ∀ j, j ≤ xs.size - 1 → numAt xs j ∈ xs.toList.map (·.1) := fun j hj => by
    rw [numAt_eq]
    exact PySem.getD_mem (by rw [List.length_map, Array.length_toList]; omega)
  have all : ∀ a ∈ xs.toList.map (·.1), ∃ j, j ≤ xs.size - 1 ∧ numAt xs j = a := fun a ha => by
    obtain ⟨j, hj, q⟩ := mem_getD ha
    rw [List.length_map, Array.length_toList] at hj
    exact ⟨j, by omega, by rw [numAt_eq]; exact q⟩
  refine ⟨fun h => b1 fun v h' tk hv hk => ?_, fun h => b2 fun v h' tk hv hk => ?_⟩
  · obtain ⟨t, rfl⟩ := intItems_at hv
    obtain ⟨h1, h2⟩ := argBest_gt (numAt xs) (xs.size - 1)
    exact h h' tk _ t hk (mem _ h1) fun a ha => by
      obtain ⟨j, hj, rfl⟩ := all a ha
      exact h2 j hj
  · obtain ⟨t, rfl⟩ := intItems_at hv
    obtain ⟨h1, h2⟩ := argBest_lt (numAt xs) (xs.size - 1)
    exact h h' tk _ t hk (mem _ h1) fun a ha => by
      obtain ⟨j, hj, rfl⟩ := all a ha
      exact h2 j hj
theorem maxI_uniq {is : List Int} {m k : Int} (h : maxI is = some m) (h1 : k ∈ is) (h2 : ∀ y ∈ is, y ≤ k) : k = m := by
  obtain ⟨a, b⟩ := maxI_is h
  have := b k h1
  have := h2 m a
  omega
theorem minI_uniq {is : List Int} {m k : Int} (h : minI is = some m) (h1 : k ∈ is) (h2 : ∀ y ∈ is, k ≤ y) : k = m := by
  obtain ⟨a, b⟩ := minI_is h
  have := b k h1
  have := h2 m a
  omega
theorem oMaxL_some {x : D} {g : G} {d : D} (h : oMaxL x g = some d) : ∃ is m, seqOf x g = some (is.map D.int) ∧ maxI is = some m ∧ d = .int m := by
  unfold oMaxL at h
  cases hs : seqOf x g with
  | none => rw [hs] at h; cases h
  | some ds =>
    rw [hs, Option.bind_some] at h
    cases ha : allI ds with
    | none => rw [ha] at h; cases h
    | some is =>
      rw [ha, Option.bind_some, Option.map_eq_some_iff] at h
      obtain ⟨m, h1, rfl⟩ := h
      exact ⟨is, m, by rw [allI_some ha], h1, rfl⟩
theorem oMinL_some {x : D} {g : G} {d : D} (h : oMinL x g = some d) : ∃ is m, seqOf x g = some (is.map D.int) ∧ minI is = some m ∧ d = .int m := by
  unfold oMinL at h
  cases hs : seqOf x g with
  | none => rw [hs] at h; cases h
  | some ds =>
    rw [hs, Option.bind_some] at h
    cases ha : allI ds with
    | none => rw [ha] at h; cases h
    | some is =>
      rw [ha, Option.bind_some, Option.map_eq_some_iff] at h
      obtain ⟨m, h1, rfl⟩ := h
      exact ⟨is, m, by rw [allI_some ha], h1, rfl⟩
theorem c_maxL (hc : X.calm = true) : CallR X (.builtin "max") (rC1 X.K (p1 oMaxL)) := by
  intro pins s σ H xs us Q I r h
  obtain ⟨x, rfl, h⟩ := h
  obtain ⟨d1, g, ι, sr, r1, d, e, k⟩ := h.pure
  obtain ⟨is, m, h1, h2, rfl⟩ := oMaxL_some e
  obtain ⟨p, vs, rfl, hq, hr⟩ := sr.seq r1 h1
  cases reps_ints hr
  have hne : 0 < is.length := by cases is with
    | nil => cases h2
    | cons _ _ => simp
  rcases hq with hq | hq
  · exact cr_max hc pins s σ H _ us Q I r ⟨p, is, rfl, hq, hne, fun k' k1 k2 => by rw [maxI_uniq h2 k1 k2]; exact k _ (.int _)⟩
  · obtain ⟨its, rv, ht, _⟩ := I.tuple hq
    rw [Vals.ref1 r]
    exact (best_ints (I.ok.hd hc) ht rv.ints hne).1 fun h' tk M t' hk k1 k2 => ⟨.int M, H, I.kept hk, ⟨_, rfl⟩, by rw [maxI_uniq h2 k1 k2]; exact k _ (.int _)⟩
theorem c_minL (hc : X.calm = true) : CallR X (.builtin "min") (rC1 X.K (p1 oMinL)) := by
  intro pins s σ H xs us Q I r h
  obtain ⟨x, rfl, h⟩ := h
  obtain ⟨d1, g, ι, sr, r1, d, e, k⟩ := h.pure
  obtain ⟨is, m, h1, h2, rfl⟩ := oMinL_some e
  obtain ⟨p, vs, rfl, hq, hr⟩ := sr.seq r1 h1
  cases reps_ints hr
  have hne : 0 < is.length := by cases is with
    | nil => cases h2
    | cons _ _ => simp
  rcases hq with hq | hq
  · exact cr_min hc pins s σ H _ us Q I r ⟨p, is, rfl, hq, hne, fun k' k1 k2 => by rw [minI_uniq h2 k1 k2]; exact k _ (.int _)⟩
  · obtain ⟨its, rv, ht, _⟩ := I.tuple hq
    rw [Vals.ref1 r]
    exact (best_ints (I.ok.hd hc) ht rv.ints hne).2 fun h' tk M t' hk k1 k2 => ⟨.int M, H, I.kept hk, ⟨_, rfl⟩, by rw [minI_uniq h2 k1 k2]; exact k _ (.int _)⟩
end
end Py
end

section
set_option Elab.async false
set_option linter.all false
set_option maxRecDepth 100000
set_option autoImplicit false
/-! sorted: of lists of texts, of whole numbers, of sets of texts. -/
namespace Py
open PySem L2
theorem sorted_ord : ∀ (ys : List (List Char)), PyProof.Rows.sortedS (ys.map sS) = true → ys.Pairwise fun a b => leS a b = true
  | [], _ => .nil
  | x :: r, h => by
    have step : ∀ (x : List Char) (r : List (List Char)), PyProof.Rows.risingS (sS x) (r.map sS) = true → r.Pairwise (fun a b => leS a b = true) ∧ ∀ y ∈ r, leS x y = true := by
      intro x r
      induction r generalizing x with
      | nil => intro _; exact ⟨.nil, fun y hy => by cases hy⟩
      | cons y r ih =>
        intro h
        simp only [List.map_cons, PyProof.Rows.risingS, Bool.and_eq_true, Bool.not_eq_true'] at h
        have h1 : leS x y = true := by
          simp only [leS, decide_eq_true_eq]
          have z := h.1
          rw [PyProof.Rows.ltCps_eq, sS_list, sS_list, decide_eq_false_iff_not] at z
          exact z
        obtain ⟨h2, h3⟩ := ih y h.2
        refine ⟨List.pairwise_cons.mpr ⟨h3, h2⟩, fun z hz => ?_⟩
        rcases List.mem_cons.mp hz with e | hz
        · rw [e]; exact h1
        · exact leS_trans _ _ _ h1 (h3 z hz)
    obtain ⟨h2, h3⟩ := step x r h
    exact List.pairwise_cons.mpr ⟨h3, h2⟩
theorem allS_some : ∀ {ds : List D} {ss : List (List Char)}, allS ds = some ss → ds = ss.map D.str
  | [], _, h => by cases h; rfl
  | d :: r, ss, h => by
    cases d <;> simp [allS] at h
    rename_i s
    obtain ⟨t, h1, rfl⟩ := h
    rw [allS_some h1]; rfl
theorem reps_strs {K H ι} : ∀ {ss : List (List Char)} {vs : List V}, Reps K H ι (ss.map D.str) vs → vs = ss.map fun s => V.str (sS s)
  | [], _, r => by cases r; rfl
  | s :: ss, _, r => by
    cases r with
    | cons h t => rw [h.str_inv, reps_strs t]; rfl
theorem unS : ∀ (xs : List Str) (ss : List (List Char)), (∀ x ∈ xs, x ∈ ss.map sS) → ∃ ys : List (List Char), xs = ys.map sS
  | [], _, _ => ⟨[], rfl⟩
  | x :: xs, ss, h => by
    obtain ⟨s, _, e⟩ := List.mem_map.mp (h x List.mem_cons_self)
    obtain ⟨ys, e2⟩ := unS xs ss fun y hy => h y (List.mem_cons_of_mem _ hy)
    exact ⟨s :: ys, by rw [e2, ← e]; rfl⟩
def unC (x : Str) : List Char := x.cps.toList.map Char.ofNat
theorem unC_sS (s : List Char) : unC (sS s) = s := by
  unfold unC
  rw [sS_list, List.map_map]
  refine (List.map_congr_left fun c _ => ?_).trans (List.map_id s)
  exact Char.ofNat_toNat c
theorem perm_sS {zs ss : List (List Char)} (h : (zs.map sS).Perm (ss.map sS)) : zs.Perm ss := by
  have z := h.map unC
  rw [List.map_map, List.map_map] at z
  have e : ∀ l : List (List Char), l.map (unC ∘ sS) = l := fun l => (List.map_congr_left fun s _ => unC_sS s).trans (List.map_id l)
  rw [e, e] at z
  exact z
theorem mem_sS {x : List Char} {ys : List (List Char)} : x ∈ ys ↔ sS x ∈ ys.map sS := ⟨fun h => List.mem_map.mpr ⟨x, h, rfl⟩, fun h => by
  obtain ⟨y, hy, e⟩ := List.mem_map.mp h
  rw [← sS_inj e]; exact hy⟩
theorem nodup_sS {ys : List (List Char)} (h : (ys.map sS).Nodup) : ys.Nodup := List.Pairwise.of_map sS (fun _ _ hne e => hne (congrArg sS e)) h
section
variable {X : Cx} {W : WX} {a b c e : Expr} {es : List Expr} {pos : Pos} {ma mb mc m : M}
theorem c_sorted : CallR X (.builtin "sorted") (rC1 X.K oSorted) := by
  intro pins s σ H xs us Q I r h
  obtain ⟨x, rfl, d1, g, ι, sr, r1, d, g', e, k⟩ := h
  unfold oSorted at e
  rw [Option.bind_eq_some_iff] at e
  obtain ⟨ds, e1, e⟩ := e
  obtain ⟨p, vs, rfl, hq, hr⟩ := sr.list r1 e1
  rw [Vals.ref1 r]
  obtain ⟨its, rv, hl, hz⟩ := I.list hq
  have hlen := rv.length
  split at e
  · rename_i ss hss
    cases e
    have e2 := allS_some hss
    subst e2
    have e3 := reps_strs hr
    subst e3
    have h3 : PyProof.Rows.StrsAre its (ss.map sS) := by
      have z : Vals ((ss.map sS).map V.str) its := by rw [List.map_map]; exact rv
      exact z.strs
    refine PyProof.Rows.sorted_strsAny hl.isList h3 (by rw [← hlen]; exact hz) fun out ys h1 h2 h4 => ?_
    obtain ⟨zs, rfl⟩ := unS ys ss fun y hy => h2.mem_iff.mp hy
    have p2 : zs.Perm ss := perm_sS h2
    have eq := sortS_uniq p2 (sorted_ord zs h4)
    subst eq
    obtain ⟨ep, he'⟩ := PyProof.Rows.sortedAll_at s.heap its out
    have hv : Vals ((sortS ss).map fun s => V.str (sS s)) out.toList := by
      have z := vals_of_strs h1
      rw [List.map_map] at z
      exact z
    have hlen2 : ((sortS ss).map fun s => V.str (sS s)).length ≤ sizeLine := by
      rw [List.length_map, (sortS_perm ss).length_eq]
      simpa using hz
    have hn := I.hok.fresh (Nat.le_succ s.heap.objs.size)
    exact ⟨.ref _, upd H (s.heap.objs.size + 1) (.lst ((sortS ss).map fun s => V.str (sS s))), I.laid (t' := s.toks) (fun _ _ => PyProof.Rows.sortedAll_old) (Nat.le_succ _) ⟨hlen2, out.toList, ep, hv, he'⟩, rfl, newL_post sr .strs k _ hn⟩
  · rw [Option.map_eq_some_iff] at e
    obtain ⟨is, hi, e⟩ := e
    cases e
    have e2 := allI_some hi
    subst e2
    have e3 := reps_ints hr
    subst e3
    refine PyProof.Rows.sorted_intsAny hl.isList rv.ints (by rw [← hlen]; exact hz) fun out ys h1 h2 h4 => ?_
    have eq := sortI_uniq h2 h4
    subst eq
    obtain ⟨ep, he'⟩ := PyProof.Rows.sortedAll_at s.heap its out
    have hlen2 : ((sortI is).map V.int).length ≤ sizeLine := by
      rw [List.length_map, (sortI_perm is).length_eq]
      simpa using hz
    have hn := I.hok.fresh (Nat.le_succ s.heap.objs.size)
    exact ⟨.ref _, upd H (s.heap.objs.size + 1) (.lst ((sortI is).map V.int)), I.laid (t' := s.toks) (fun _ _ => PyProof.Rows.sortedAll_old) (Nat.le_succ _) ⟨hlen2, out.toList, ep, vals_of_ints h1, he'⟩, rfl, newL_post sr .ints k _ hn⟩
theorem rep_seq_strs {g : G} {ι : List Addr} {K H} {d : D} {v : V} {ss : List (List Char)} (s : SR_ K H ι g) (r : Rep K H ι d v) (h : seqOf d g = some (ss.map D.str)) :
    ∃ p, v = .ref p ∧ (SqL K H p (ss.map fun s => V.str (sS s)) ∨ SqT K H p (ss.map fun s => V.str (sS s))) := by
  obtain ⟨p, vs, e, hq, hr⟩ := s.seq r h
  rw [reps_strs hr] at hq
  exact ⟨p, e, hq⟩
theorem e_sortSet {p p2 q : Pos} (hc : X.calm = true) (hm : X.mg "sorted" = none) (hm2 : X.mg "set" = none) (ha : EE X W a ma) (hg : Gl X "sorted" := by rfl) (hg2 : Gl X "set" := by rfl)
    (hs : starEach [.Call (.Name "set" p2) [a] [] q] X.env = [(false, eval (.Call (.Name "set" p2) [a] [] q) X.env)] := by rfl) (hs2 : starEach [a] X.env = [(false, eval a X.env)] := by rfl) :
    EE X W (.Call (.Name "sorted" p) [.Call (.Name "set" p2) [a] [] q] [] pos) (mUn oSortSet ma) := by
  refine ⟨fun pins s σ H Q I h => ?_⟩
  have h1 := one h
  refine PyProof.Rows.Call_ (ld_blt I hg hm (show bootBuiltins "sorted" = some (.builtin "sorted") by decide +kernel) ?_)
  refine PyProof.Rows.callWith_builtin1 (PyProof.Rows.args_cons ?_ rfl) hs rfl
  refine PyProof.Rows.Call_ (ld_blt I hg2 hm2 PyProof.Rows.boot_set ?_)
  refine PyProof.Rows.callWith_type1 (PyProof.Rows.args_cons (thn (ha.run pins s σ H _ I h1) fun v s1 ⟨x, H1, I1, r1, q1⟩ => PyProof.Rows.args_nil ?_) hs2) hs2 rfl
  obtain ⟨d1, g, ι, sr, rp, d, g', e, k⟩ := q1
  unfold oSortSet at e
  rw [Option.bind_eq_some_iff] at e
  obtain ⟨ss, e1, e⟩ := e
  rw [Option.bind_eq_some_iff] at e1
  obtain ⟨ds, e0, e1⟩ := e1
  have e2 := allS_some e1
  subst e2
  split at e
  · rename_i few
    cases e
    obtain ⟨p0, rfl, hq⟩ := rep_seq_strs sr rp e0
    cases r1
    have hd := I1.ok.hd hc
    have lim : (ss.map sS).length + 1 < scanBound := by rw [List.length_map, show scanBound = 4096 from rfl]; omega
    have fin : ∀ s2, PyG.Full X.prog X.w s1 (ss.map sS) s2 → PySem.wpAny (model X.prog X.w) X.A (spliced (backTo pos (starEach [] X.env))) (fun vs s' => PySem.wpAny (model X.prog X.w) X.A (call (.builtin "sorted") (.ref s1.heap.objs.size :: vs)) (EP X pins σ Q) X.xe s') X.xe s2 := fun s2 F => by
      obtain ⟨h', tk, Dd, l, rfl, ho, T, hl, hm', keep⟩ := F
      refine PyProof.Rows.args_nil ?_
      refine PyG.sorted_txt (s := { s1 with heap := h', toks := tk }) ho T hd (by omega) fun s3 p3 out c xs k3 g3 o3 hp3 hg3 hst hso hpm => ?_
      obtain ⟨ys, rfl⟩ := unS xs ss fun y hy => (hm' y).mp (hpm.mem_iff.mp hy)
      have eq : ys = sortS (ddS ss) := sortS_dd (nodup_sS (hpm.nodup_iff.mpr T.nd)) (fun x => by
        rw [mem_sS, hpm.mem_iff, hm' (sS x), ← mem_sS]) (sorted_ord ys hso)
      subst eq
      have kall : ∀ b o, s1.heap.get? b = some o → s3.heap.get? b = some o := fun b o z => k3 b o (keep b o z)
      have hp1 : s1.heap.objs.size ≤ p3 := Nat.le_trans (Nat.le_of_lt (Heap.lt_size ho)) hp3
      have hn := I1.hok.fresh hp1
      have hv : Vals ((sortS (ddS ss)).map fun s => V.str (sS s)) out.toList := by
        have z := vals_of_strs hst
        rw [List.map_map] at z
        exact z
      have hlen : ((sortS (ddS ss)).map fun s => V.str (sS s)).length ≤ sizeLine := by
        have z := hpm.length_eq
        rw [List.length_map] at z
        rw [List.length_map, z, line_eq]
        rw [List.length_map] at hl lim
        have e4 : LINE = 16777216 := rfl
        omega
      have J : L2.Inv X pins σ (upd H1 p3 (.lst ((sortS (ddS ss)).map fun s => V.str (sS s)))) { s1 with heap := s3.heap, gens := s3.gens, drawn := s3.drawn, toks := s3.toks } :=
        I1.call (ch := []) (Un.laid kall hp1 hn) (I1.hok.laid kall hp1 ⟨hlen, out.toList, c, hv, hg3⟩) (by rw [g3]; exact I1.bare) (fun _ z => nomatch z)
      have e3 : s3 = { s1 with heap := s3.heap, gens := s3.gens, drawn := s3.drawn, toks := s3.toks } := by
        cases s3
        cases o3
        rfl
      rw [e3]
      exact ⟨.ref p3, _, J, rfl, newL_post sr .strs k _ hn⟩
    rcases hq with hq | hq
    · obtain ⟨its, rv, hl, hz⟩ := I1.list hq
      refine PyG.set_list (ss.map sS) hd hl.isList (Vals.strs (by rw [List.map_map]; exact rv)) lim fin
    · obtain ⟨its, rv, hl, hz⟩ := I1.tuple hq
      refine PyG.set_tuple (ss.map sS) hd hl (Vals.strs (by rw [List.map_map]; exact rv)) lim fin
  · cases e
end
end Py
end

section
set_option Elab.async false
set_option linter.all false
set_option maxRecDepth 100000
set_option autoImplicit false
/-! Soundness of loops, targets, comprehensions, statements, defs. -/
namespace Py
open PySem L2
section
variable {K : PySem.W.Frag} {mg : Str → Option Value} {W : WX} {σ : St} {H H' : Hp} {ι ι' : List Addr}
/-! ### iterators -/
def Sim (K : PySem.W.Frag) (H0 : Hp) (ι0 : List Addr) (J : It) (it : Iter) : Prop := ∀ (i : Nat) (H : Hp) (g : G) (ι : List Addr), Ext K H0 H ι0 ι → SR_ K H ι g →
  (it.get i g = some none → J.stop i H) ∧ ∀ d, it.get i g = some (some d) → J.go i H ∧ ∀ x H', J.yld i H x H' → Ext K H H' ι ι ∧ SR_ K H' ι g ∧ Rep K H' ι d x
def tI (K : PySem.W.Frag) (mg : Str → Option Value) (W : WX) (w : I) : TI := fun σ H R => ∃ ρ g ι, ER K H ι ρ σ ∧ SR_ K H ι g ∧ Post K mg W σ H ι (w ρ g) fun it _ H' ι' => ∀ J, Sim K H' ι' J it → R J H'
theorem sim_list {r : Nat} {a : Addr} {n : Nat} (ha : ι[r]? = some a) : Sim K H ι (Itl K a) (itR r n) := by
  intro i H1 g ι1 x s
  have ha1 := x.pre r a ha
  refine ⟨fun h => ?_, fun d h => ?_⟩
  · simp only [itR, Option.map_eq_some_iff] at h
    obtain ⟨xs, h1, h2⟩ := h
    obtain ⟨a', vs, e, hq, hr⟩ := s.list (.ref ha1) h1
    cases e
    refine ⟨vs, hq, ?_⟩
    have := List.getElem?_eq_none_iff.mp h2
    rw [← hr.len]; exact this
  · simp only [itR, Option.map_eq_some_iff] at h
    obtain ⟨xs, h1, h2⟩ := h
    obtain ⟨a', vs, e, hq, hr⟩ := s.list (.ref ha1) h1
    cases e
    obtain ⟨v, h3, h4⟩ := hr.get h2
    refine ⟨⟨vs, v, hq, h3⟩, fun y H' hy => ?_⟩
    obtain ⟨rfl, hy⟩ := hy
    have := hy vs hq
    rw [h3] at this
    cases this
    exact ⟨Ext.refl, s, h4⟩
theorem sim_tup {a : Addr} {ds : List D} {vs : List V} (hq : SqT K H a vs) (hr : Reps K H ι ds vs) : Sim K H ι (Itt K a) (itL ds) := by
  intro i H1 g ι1 x s
  have hq1 := x.tup a vs hq
  have hr1 := hr.ext x
  refine ⟨fun h => ?_, fun d h => ?_⟩
  · have h' : ds[i]? = none := Option.some.inj h
    refine ⟨vs, hq1, ?_⟩
    rw [← hr.len]; exact List.getElem?_eq_none_iff.mp h'
  · have h' : ds[i]? = some d := Option.some.inj h
    obtain ⟨v, h3, h4⟩ := hr1.get h'
    refine ⟨⟨vs, v, hq1, h3⟩, fun y H' hy => ?_⟩
    obtain ⟨rfl, hy⟩ := hy
    have := hy vs hq1
    rw [h3] at this
    cases this
    exact ⟨Ext.refl, s, h4⟩
theorem sim_str {z : List Char} : Sim K H ι (Its (sS z)) (itL (z.map fun c => .str [c])) := by
  intro i H1 g ι1 x s
  have hz : (sS z).cps.size = z.length := sS_length z
  refine ⟨fun h => ?_, fun d h => ?_⟩
  · have h' : (z.map fun c => D.str [c])[i]? = none := Option.some.inj h
    have := List.getElem?_eq_none_iff.mp h'
    rw [List.length_map] at this
    show (sS z).cps.size ≤ i
    omega
  · have h' : (z.map fun c => D.str [c])[i]? = some d := Option.some.inj h
    rw [List.getElem?_map, Option.map_eq_some_iff] at h'
    obtain ⟨c, h1, rfl⟩ := h'
    have hl := (List.getElem?_eq_some_iff.mp h1).1
    refine ⟨show i < (sS z).cps.size by omega, fun y H' hy => ?_⟩
    obtain ⟨rfl, c', h2, rfl⟩ := hy
    have e : (sS z).cps[i]? = some c.toNat := by
      rw [← Array.getElem?_toList, sS_list, List.getElem?_map, h1]; rfl
    rw [e] at h2
    cases h2
    exact ⟨Ext.refl, s, .str [c]⟩
theorem rng_get (lo : Int) (n i : Nat) : (rng lo n)[i]? = if i < n then some (.int (lo + i)) else none := by
  unfold rng
  rw [List.getElem?_map]
  by_cases h : i < n
  · rw [if_pos h, List.getElem?_range h]; rfl
  · rw [if_neg h, List.getElem?_eq_none (by simp; omega)]; rfl
theorem sim_rng {lo : Int} {n : Nat} : Sim K H ι (Itr lo n) (itL (rng lo n)) := by
  intro i H1 g ι1 x s
  refine ⟨fun h => ?_, fun d h => ?_⟩
  · have h' : (rng lo n)[i]? = none := Option.some.inj h
    rw [rng_get] at h'
    show n ≤ i
    by_cases hi : i < n
    · rw [if_pos hi] at h'; cases h'
    · omega
  · have h' : (rng lo n)[i]? = some d := Option.some.inj h
    rw [rng_get] at h'
    by_cases hi : i < n
    · rw [if_pos hi] at h'
      cases h'
      refine ⟨hi, fun y H' hy => ?_⟩
      obtain ⟨rfl, rfl⟩ := hy
      exact ⟨Ext.refl, s, .int _⟩
    · rw [if_neg hi] at h'; cases h'
end
section
variable {X : Cx} {W : WX} {tg a b c e : Expr} {es : List Expr} {pos : Pos} {ma mb m : M}
abbrev II (X : Cx) (W : WX) (tg e : Expr) (w : I) : Prop := PI X tg e (tI X.K X.mg W w)
theorem i_any (h : EE X W e m) : II X W tg e (iAny m) := by
  refine ⟨fun pins s σ H R I ⟨ρ, g, ι, er, sr, p⟩ => ?_⟩
  unfold iAny at p
  cases hm : m ρ g with
  | bad => rw [hm] at p; exact p.elim
  | exc x g1 =>
    refine (pi_list (tg := tg) h).run pins s σ H R I ⟨ρ, g, ι, er, sr, ?_⟩
    rw [hm] at p ⊢
    exact p
  | ok d g1 =>
    rw [hm, Py.R.bind_ok] at p
    cases d with
    | tup ds =>
      refine (pi_tup (tg := tg) h).run pins s σ H R I ⟨ρ, g, ι, er, sr, ?_⟩
      rw [hm]
      intro H' ι' x s' v r
      cases r with
      | @tup _ vs q ht hr => exact ⟨q, rfl, ⟨vs, ht⟩, p H' ι' x s' _ (sim_tup ht hr)⟩
    | str z =>
      refine (pi_str (tg := tg) h).run pins s σ H R I ⟨ρ, g, ι, er, sr, ?_⟩
      rw [hm]
      intro H' ι' x s' v r
      cases r
      exact ⟨sS z, rfl, p H' ι' x s' _ sim_str⟩
    | ref rr =>
      refine (pi_list (tg := tg) h).run pins s σ H R I ⟨ρ, g, ι, er, sr, ?_⟩
      rw [hm]
      intro H' ι' x s' v r
      unfold iterOf at p
      dsimp only at p
      cases hl : lstOf (.ref rr) g1 with
      | none => rw [hl] at p; exact p.elim
      | some xs =>
        rw [hl] at p
        obtain ⟨a', vs, e1, hq, hr⟩ := s'.list r hl
        subst e1
        cases r with
        | ref ha => exact ⟨a', rfl, ⟨vs, hq⟩, p H' ι' x s' _ (sim_list ha)⟩
    | _ => exact p.elim
theorem SMALL_eq : SMALL = 2 ^ 62 := by rw [SMALL_is]; decide
theorem i_range1 {p pos : Pos} (hm : X.mg "range" = none) (ha : EE X W a ma) (hg : Gl X "range" := by rfl) (hs : starEach [a] X.env = [(false, eval a X.env)] := by rfl) : II X W tg (.Call (.Name "range" p) [a] [] pos) (iRange1 ma) :=
  (pi_range1 hg hm (pa_cons ha pa_nil hs) hs).mono fun σ H R ⟨ρ, g, ι, er, sr, p⟩ => by
    refine ⟨ρ, g, ι, er, sr, (Post.bind p).imp fun d1 g1 H1 ι1 _ x1 s1 p1 v1 r1 => ?_⟩
    cases r1 with
    | int j =>
      dsimp only at p1
      split at p1
      · rename_i hj
        rw [SMALL_eq] at hj
        exact ⟨j, rfl, hj.1, hj.2, p1.ok s1 _ sim_rng⟩
      · exact p1.elim
    | _ => exact p1.elim
theorem i_range2 {p pos : Pos} (hm : X.mg "range" = none) (ha : EE X W a ma) (hb : EE X W b mb) (hg : Gl X "range" := by rfl) (hs : starEach [a, b] X.env = [(false, eval a X.env), (false, eval b X.env)] := by rfl)
    (hs2 : starEach [b] X.env = [(false, eval b X.env)] := by rfl) : II X W tg (.Call (.Name "range" p) [a, b] [] pos) (iRange2 ma mb) :=
  (pi_range2 hg hm (pa_cons ha (pa_cons hb pa_nil hs2) (by rw [hs, hs2])) hs hs2).mono fun σ H R ⟨ρ, g, ι, er, sr, p⟩ => by
    refine ⟨ρ, g, ι, er, sr, (Post.bind p).imp fun d1 g1 H1 ι1 _ x1 s1 p1 v1 r1 => ⟨ρ, g1, ι1, er.ext x1, s1, (Post.bind p1).imp fun d2 g2 H2 ι2 _ x2 s2 p2 v2 r2 => ?_⟩⟩
    have r1 := r1.ext x2
    cases r1 with
    | int i =>
      cases r2 with
      | int j =>
        dsimp only at p2
        split at p2
        · rename_i hj
          rw [SMALL_eq] at hj
          exact ⟨i, j, rfl, ⟨hj.1.1, hj.1.2, hj.2.1, hj.2.2⟩, p2.ok s2 _ sim_rng⟩
        · exact p2.elim
      | _ => exact p2.elim
    | _ => cases r2 <;> exact p2.elim
/-! ### targets -/
/-- but the slots in own nothing changes -/
def Keep (own : List Nat) (σ σ' : St) : Prop := σ'.length = σ.length ∧ ∀ i, i ∉ own → σ'[i]? = σ[i]?
theorem Keep.refl (own : List Nat) (σ : St) : Keep own σ σ := ⟨rfl, fun _ _ => rfl⟩
theorem Keep.trans {own : List Nat} {σ σ' σ2 : St} (a : Keep own σ σ') (b : Keep own σ' σ2) : Keep own σ σ2 := ⟨b.1.trans a.1, fun i h => (b.2 i h).trans (a.2 i h)⟩
def tG (K : PySem.W.Frag) (own : List Nat) (t : Tg) : TG := fun v σ H Q => ∃ d ρ g ι ρ', Rep K H ι d v ∧ ER K H ι ρ σ ∧ SR_ K H ι g ∧ t d ρ = some ρ' ∧ ∀ σ', ER K H ι ρ' σ' → Keep own σ σ' → Q σ' H
def tGs (K : PySem.W.Frag) (own : List Nat) (t : Tgs) : TGs := fun vs σ H Q => ∃ ds ρ g ι ρ', Reps K H ι ds vs ∧ ER K H ι ρ σ ∧ SR_ K H ι g ∧ t ds ρ = some ρ' ∧ ∀ σ', ER K H ι ρ' σ' → Keep own σ σ' → Q σ' H
abbrev GG (X : Cx) (own : List Nat) (e : Expr) (t : Tg) : Prop := PG X e (tG X.K own t)
structure GGs (X : Cx) (own : List Nat) (es : List Expr) (t : Tgs) (n : Nat) : Prop where
  run : PGs X es (tGs X.K own t)
  len : ∀ ds ρ ρ', t ds ρ = some ρ' → ds.length = n
theorem _root_.L2.PG.mono {e : Expr} {t t' : TG} (h : PG X e t) (i : ∀ v σ H Q, t' v σ H Q → t v σ H Q) : PG X e t' := ⟨fun pins s σ H v u Q I r q => h.run pins s σ H v u Q I r (i v σ H Q q)⟩
theorem _root_.L2.PGs.mono {e : List Expr} {t t' : TGs} (h : PGs X e t) (i : ∀ v σ H Q, t' v σ H Q → t v σ H Q) : PGs X e t' := ⟨fun pins s σ H v u Q I r q => h.run pins s σ H v u Q I r (i v σ H Q q)⟩
variable {own : List Nat}
theorem g_name (i : Nat) {x : Str} (hN : X.N.Nodup) (ho : i ∈ own := by decide) (hi : X.N[i]? = some x := by rfl) (hx : Loc X.env.scope x := by first | exact Or.inl rfl | exact Or.inr rfl) (hf : X.fn x = true ∨ X.env.scope.names.lookup x = some .local := by first | exact .inl rfl | exact .inr rfl | assumption) : GG X own (.Name x pos) (Py.gName i) :=
  (pg_name hN hi hx hf).mono fun v σ H Q ⟨d, ρ, g, ι, ρ', r, er, sr, h, k⟩ => by
    cases h
    exact k _ (er.set r i) ⟨by simp, fun j hj => List.getElem?_set_ne (fun (e : i = j) => hj (by rw [← e]; exact ho))⟩
theorem gs_nil : GGs X own [] Py.gNil 0 where
  run := pgs_nil.mono fun vs σ H Q ⟨ds, ρ, g, ι, ρ', r, er, sr, h, k⟩ => by
    cases r with
    | nil => cases h; exact ⟨rfl, k σ er (Keep.refl _ _)⟩
    | cons _ _ => cases h
  len := fun ds ρ ρ' h => by cases ds <;> simp [Py.gNil] at h ⊢
theorem gs_cons {t : Tg} {u : Tgs} {n : Nat} (h1 : GG X own e t) (h2 : GGs X own es u n) (hs : (assignEach (e :: es) X.env).map (·.2) = assign e X.env :: (assignEach es X.env).map (·.2) := by rfl) : GGs X own (e :: es) (Py.gCons t u) (n + 1) where
  run := (pgs_cons h1 h2.run hs).mono fun vs σ H Q ⟨ds, ρ, g, ι, ρ', r, er, sr, h, k⟩ => by
    cases r with
    | nil => cases h
    | @cons d v ds vs r1 r2 =>
      obtain ⟨ρ1, e1, e2⟩ := Option.bind_eq_some_iff.mp h
      exact ⟨v, vs, rfl, d, ρ, g, ι, ρ1, r1, er, sr, e1, fun σ' er' k1 => ⟨ds, ρ1, g, ι, ρ', r2, er', sr, e2, fun σ2 er2 k2 => k σ2 er2 (k1.trans k2)⟩⟩
  len := fun ds ρ ρ' h => by
    cases ds with
    | nil => cases h
    | cons d ds =>
      obtain ⟨ρ1, e1, e2⟩ := Option.bind_eq_some_iff.mp h
      simp [h2.len _ _ _ e2]
theorem g_tup {t : Tgs} {n k : Nat} (hc : X.calm = true) (h : GGs X own es t n) (hn : (assignEach es X.env).length = n := by rfl) (hst : (assignEach es X.env).findIdx? (·.1) = none := by rfl) : GG X own (.Tuple es k pos) (Py.gTup t) :=
  (pg_tup hc h.run hn hst).mono fun v σ H Q ⟨d, ρ, g, ι, ρ', r, er, sr, h', kk⟩ => by
    cases r with
    | @tup ds vs a ht hr => exact ⟨a, vs, rfl, ht, by rw [← hr.len]; exact h.len _ _ _ h', ds, ρ, g, ι, ρ', hr, er, sr, h', kk⟩
    | _ => cases h'
/-! ### statements -/
def PostS (K : PySem.W.Frag) (mg : Str → Option Value) (W : WX) (E : Ends) (H : Hp) (ι : List Addr) (r : SR) : Prop := match r with
  | .next ρ g => ∀ σ' H' ι', Ext K H H' ι ι' → SR_ K H' ι' g → ER K H' ι' ρ σ' → E.nx σ' H'
  | .brk ρ g => ∀ σ' H' ι', Ext K H H' ι ι' → SR_ K H' ι' g → ER K H' ι' ρ σ' → E.bk σ' H'
  | .cont ρ g => ∀ σ' H' ι', Ext K H H' ι ι' → SR_ K H' ι' g → ER K H' ι' ρ σ' → E.ct σ' H'
  | .ret d g => ∀ v H' ι', Ext K H H' ι ι' → SR_ K H' ι' g → Rep K H' ι' d v → E.rt v H'
  | .exc e ρ g => ∀ cls dx σ' H' ι', Ext K H H' ι ι' → SR_ K H' ι' g → ER K H' ι' ρ σ' → ExcR mg K H' ι' e cls dx → W cls dx σ' H'
  | .bad => False
def tS (K : PySem.W.Frag) (mg : Str → Option Value) (W : WX) (m : S) : TS := fun E σ H => ∃ ρ g ι, ER K H ι ρ σ ∧ SR_ K H ι g ∧ PostS K mg W E H ι (m ρ g)
abbrev SS (X : Cx) (W : WX) (st : Stmt) (m : S) : Prop := PS X st (tS X.K X.mg W m)
abbrev SSs (X : Cx) (W : WX) (sts : List Stmt) (m : S) : Prop := PSs X sts (tS X.K X.mg W m)
section
variable {K : PySem.W.Frag} {mg : Str → Option Value} {σ : St} {H H' : Hp} {ι ι' : List Addr} {E : Ends} {r : SR}
theorem PostS.ext (x : Ext K H H' ι ι') (p : PostS K mg W E H ι r) : PostS K mg W E H' ι' r := by
  cases r with
  | next ρ g => exact fun σ2 H2 ι2 y => p σ2 H2 ι2 (x.trans y)
  | brk ρ g => exact fun σ2 H2 ι2 y => p σ2 H2 ι2 (x.trans y)
  | cont ρ g => exact fun σ2 H2 ι2 y => p σ2 H2 ι2 (x.trans y)
  | ret d g => exact fun v H2 ι2 y => p v H2 ι2 (x.trans y)
  | exc e ρ g => exact fun c d σ2 H2 ι2 y => p c d σ2 H2 ι2 (x.trans y)
  | bad => exact p
theorem PostS.next {ρ : Env} {g : G} (p : PostS K mg W E H ι (.next ρ g)) (s : SR_ K H ι g) (er : ER K H ι ρ σ) : E.nx σ H := p σ H ι Ext.refl s er
/-- from an expression -/
theorem PostS.onR {α : Type} {o : R α} {k : α → G → SR} {ρ : Env} (er : ER K H ι ρ σ) (p : PostS K mg W E H ι (onR o ρ k)) : Post K mg W σ H ι o fun a g H' ι' => PostS K mg W E H' ι' (k a g) := by
  cases o with
  | ok a g => exact fun H2 ι2 y s => PostS.ext y p
  | exc e g => exact fun cls dx H2 ι2 y s z => p cls dx σ H2 ι2 y s (er.ext y) z
  | bad => exact p
end
variable {st : Stmt} {rest : List Stmt} {s1 s2 : S} {t : T}
theorem ss_cons (h1 : SS X W st s1) (h2 : SSs X W rest s2) : SSs X W (st :: rest) (sSeq s1 s2) := (pss_cons h1 h2).mono fun E σ H ⟨ρ, g, ι, er, s, p⟩ => by
  refine ⟨ρ, g, ι, er, s, ?_⟩
  unfold sSeq at p
  cases h : s1 ρ g with
  | next ρ1 g1 => rw [h] at p; exact fun σ' H' ι' x s' er' => ⟨ρ1, g1, ι', er', s', PostS.ext x p⟩
  | ret d g1 => rw [h] at p; exact p
  | brk ρ1 g1 => rw [h] at p; exact p
  | cont ρ1 g1 => rw [h] at p; exact p
  | exc e ρ1 g1 => rw [h] at p; exact p
  | bad => rw [h] at p; exact p
theorem ss_one (h1 : SS X W st s1) : SSs X W [st] s1 := pss_one h1
theorem ss_nil : SSs X W [] sNil := pss_nil.mono fun E σ H ⟨ρ, g, ι, er, s, p⟩ => p.next s er
theorem s_pass : SS X W (.Pass pos) sNil := ps_pass.mono fun E σ H ⟨ρ, g, ι, er, s, p⟩ => p.next s er
theorem s_break : SS X W (.Break pos) sBreak := ps_break.mono fun E σ H ⟨ρ, g, ι, er, s, p⟩ => p σ H ι Ext.refl s er
theorem s_cont : SS X W (.Continue pos) sCont := ps_continue.mono fun E σ H ⟨ρ, g, ι, er, s, p⟩ => p σ H ι Ext.refl s er
theorem s_expr (h : EE X W e m) (hs : swapsWith e none pos.line X.env = pure false := by rfl) : SS X W (.Expr e pos) (sExpr m) := (ps_expr h hs).mono fun E σ H ⟨ρ, g, ι, er, s, p⟩ => by
  exact ⟨ρ, g, ι, er, s, (PostS.onR er p).imp fun d1 g1 H1 ι1 _ x1 s1 p1 v1 r1 => p1.next s1 (er.ext x1)⟩
theorem s_ret (h : EE X W e m) : SS X W (.Return (some e) pos) (sRet m) := (ps_ret h).mono fun E σ H ⟨ρ, g, ι, er, s, p⟩ => by
  exact ⟨ρ, g, ι, er, s, (PostS.onR er p).imp fun d1 g1 H1 ι1 _ x1 s1 p1 v1 r1 => p1 v1 H1 ι1 Ext.refl s1 r1⟩
theorem s_retN : SS X W (.Return none pos) sRetN := ps_retN.mono fun E σ H ⟨ρ, g, ι, er, s, p⟩ => p _ H ι Ext.refl s .non
theorem s_if {a b : List Stmt} (hc : TTt X W c t) (ha : SSs X W a s1) (hb : SSs X W b s2) : SS X W (.If c a b pos) (sIf t s1 s2) := (ps_if hc ha hb).mono fun E σ H ⟨ρ, g, ι, er, s, p⟩ => by
  refine ⟨ρ, g, ι, er, s, (PostS.onR er p).imp fun k g1 H1 ι1 _ x1 s1 p1 => ?_⟩
  cases k with
  | true => exact ⟨ρ, g1, ι1, er.ext x1, s1, p1⟩
  | false => exact ⟨ρ, g1, ι1, er.ext x1, s1, p1⟩
theorem asg_post {K mg} {E : Ends} {tg : Tg} {σ : St} {H : Hp} (h : tS K mg W (sAsg m tg) E σ H) : tE K mg W m σ H fun x H1 => tG K own tg x σ H1 E.nx := by
  obtain ⟨ρ, g, ι, er, s, p⟩ := h
  refine ⟨ρ, g, ι, er, s, (PostS.onR er p).imp fun d1 g1 H1 ι1 _ x1 s1 p1 v1 r1 => ?_⟩
  cases h : tg d1 ρ with
  | none => rw [h] at p1; exact p1.elim
  | some ρ1 => rw [h] at p1; exact ⟨d1, ρ, g1, ι1, ρ1, r1, er.ext x1, s1, h, fun σ' er' _ => p1.next s1 er'⟩
theorem s_asg {g : Tg} {tgt : Expr} (h : EE X W e m) (hg : GG X own tgt g) (hs : swapsWithSole [tgt] e pos.line X.env = pure false := by rfl) (hw : swappedStores [tgt] e X.env = pure none := by rfl)
    (h1 : (assignEach [tgt] X.env).map (·.2) = [assign tgt X.env] := by rfl) : SS X W (.Assign [tgt] e pos) (sAsg m g) := (ps_asg h hg hs hw h1).mono fun E σ H h => asg_post h
theorem s_set (i : Nat) {x : Str} {pos' : Pos} (hN : X.N.Nodup) (h : EE X W e m) (hi : X.N[i]? = some x := by rfl) (hx : Loc X.env.scope x := by first | exact Or.inl rfl | exact Or.inr rfl) (hs : swapsWith e (some (.Name x pos')) pos.line X.env = pure false := by rfl)
    (hf : X.fn x = true ∨ X.env.scope.names.lookup x = some .local := by first | exact .inl rfl | exact .inr rfl | assumption) : SS X W (.Assign [.Name x pos'] e pos) (sAsg m (Py.gName i)) :=
  (ps_set hN hi hx h hs hf).mono fun E σ H h => by
    obtain ⟨ρ, g, ι, er, s, p⟩ := h
    refine ⟨ρ, g, ι, er, s, (PostS.onR er p).imp fun d1 g1 H1 ι1 _ x1 s1 p1 v1 r1 => ?_⟩
    exact p1.next s1 ((er.ext x1).set r1 i)
/-- o[i] = e, o a list -/
def tSetI (K : PySem.W.Frag) : TSet := fun o i v H Q => ∃ x k d g ι r xs j z, SR_ K H ι g ∧ Rep K H ι x o ∧ Rep K H ι k i ∧ Rep K H ι d v ∧ mutOf x g = some (r, xs) ∧ asI k = some z ∧ ix xs.length z = some j ∧
  ∀ H' ι', Ext K H H' ι ι' → SR_ K H' ι' (g.set r (.lst (xs.set j d))) → Q H'
theorem set_i : PSet X (tSetI X.K) := by
  intro pins s σ H o i v ov iv u Q I ro ri rv ⟨x, k, d, g, ι, r, xs, j, z, sr, h1, h2, h3, h4, h5, h6, q⟩
  obtain ⟨e1, hg⟩ := mutOf_inv h4
  subst e1
  cases asI_some h5
  cases h2
  cases h1 with
  | @ref _ a ha =>
    obtain ⟨vs, e2, hr⟩ := sr.lst ha hg
    exact set_list pins s σ H _ _ v ov iv u Q I ro ri rv ⟨a, vs, z, j, rfl, rfl, e2, by rw [← hr.len]; exact h6, q _ ι (Ext.wr e2) (sr.wrL hg ha (Reps.set h3 j hr) e2)⟩
theorem s_setI {o i : Expr} {mo mi : M} {p2 : Pos} (he : EE X W e m) (ho : EE X W o mo) (hi : EE X W i mi)
    (hgs : PG X (.Subscript o i p2) (gSub (tE X.K X.mg W mo) (tE X.K X.mg W mi) (tSetI X.K)))
    (hs : swapsWithSole [.Subscript o i p2] e pos.line X.env = pure false := by rfl) (hw : swappedStores [.Subscript o i p2] e X.env = pure none := by rfl)
    (h1 : (assignEach [.Subscript o i p2] X.env).map (·.2) = [assign (.Subscript o i p2) X.env] := by rfl) : SS X W (.Assign [.Subscript o i p2] e pos) (sSetI mo mi m) :=
  (ps_asg he hgs hs hw h1).mono fun E σ H ⟨ρ, g, ι, er, s, p⟩ => by
    refine ⟨ρ, g, ι, er, s, (PostS.onR er p).imp fun d1 g1 H1 ι1 _ x1 s1 p1 v1 r1 => ?_⟩
    refine ⟨ρ, g1, ι1, er.ext x1, s1, (PostS.onR (er.ext x1) p1).imp fun d2 g2 H2 ι2 _ x2 s2 p2 v2 r2 => ?_⟩
    refine ⟨ρ, g2, ι2, (er.ext x1).ext x2, s2, (PostS.onR ((er.ext x1).ext x2) p2).imp fun d3 g3 H3 ι3 _ x3 s3 p3 v3 r3 => ?_⟩
    cases hm : mutOf d2 g3 with
    | none => rw [hm] at p3; exact p3.elim
    | some q =>
      obtain ⟨r, xs⟩ := q
      cases hk : asI d3 with
      | none => rw [hm, hk] at p3; exact p3.elim
      | some z =>
        rw [hm, hk] at p3
        dsimp only at p3
        cases hj : ix xs.length z with
        | none => rw [hj] at p3; exact p3.elim
        | some j =>
          rw [hj] at p3
          exact ⟨d2, d3, d1, g3, ι3, r, xs, j, z, s3, r2.ext x3, r3, (r1.ext x2).ext x3, hm, hk, hj, fun H' ι' x s' => p3 σ H' ι' x s' ((((er.ext x1).ext x2).ext x3).ext x)⟩
theorem gsub_i {o i : Expr} {mo mi : M} {p2 : Pos} (ho : EE X W o mo) (hi : EE X W i mi)
    (ha : ∀ v, assign (.Subscript o i p2) X.env v = (do
      let ov ← holding [v] (eval o X.env)
      let iv ← holding [v, ov] (eval i X.env)
      standAt p2
      holding [v, ov, iv] (setItem ov iv v)
      release [v, ov, iv] []) := by intro _; rfl) : PG X (.Subscript o i p2) (gSub (tE X.K X.mg W mo) (tE X.K X.mg W mi) (tSetI X.K)) := pg_sub ho hi set_i ha
/-! ### for -/
theorem s_for {w : I} {tgt : Tg} {body : List Stmt} {iter tg : Expr} (hp : PassesOwn (model X.prog X.w) X.A X.env X.xe) (hc : X.calm = true) (hw : II X W tg iter w) (hg : GG X own tg tgt) (hb : SSs X W body s1)
    (hs : ∀ x, foldedSetIterable iter X.env x = pure x := by intro _; rfl) : SS X W (.For tg iter body [] pos) (sFor w tgt s1) := (ps_for hp hc hw hg hb hs).mono fun E σ H ⟨ρ, g, ι, er, s, p⟩ => by
  refine ⟨ρ, g, ι, er, s, (PostS.onR er p).imp fun it g1 H1 ι1 _ x1 s1' p1 J sim => ?_⟩
  refine ⟨fun i m σ H => ∃ ρ g ι, ER X.K H ι ρ σ ∧ SR_ X.K H ι g ∧ Ext X.K H1 H ι1 ι ∧ PostS X.K X.mg W E H ι (forGo it.get tgt s1 m i ρ g), ⟨it.n + 1, ρ, g1, ι1, er.ext x1, s1', Ext.refl, p1⟩, ?_⟩
  rintro i m σ2 H2 ⟨ρ2, g2, ι2, er2, sr2, ex2, p2⟩
  cases m with
  | zero => exact p2.elim
  | succ m =>
    obtain ⟨sim1, sim2⟩ := sim i H2 g2 ι2 ex2 sr2
    unfold forGo at p2
    cases hit : it.get i g2 with
    | none => rw [hit] at p2; exact p2.elim
    | some o =>
      cases o with
      | none => rw [hit] at p2; exact .inl ⟨sim1 hit, p2.next sr2 er2⟩
      | some d =>
        rw [hit] at p2
        obtain ⟨go, yl⟩ := sim2 d hit
        refine .inr ⟨go, fun σ' H' => ∃ ρ g ι, ER X.K H' ι ρ σ' ∧ SR_ X.K H' ι g ∧ Ext X.K H1 H' ι1 ι ∧ PostS X.K X.mg W E H' ι (forGo it.get tgt s1 m (i + 1) ρ g), fun σ' H' h => ⟨m, Nat.lt_succ_self m, h⟩, fun x H' hy => ?_⟩
        obtain ⟨e3, sr3, r3⟩ := yl x H' hy
        dsimp only at p2
        cases ht : tgt d ρ2 with
        | none => rw [ht] at p2; exact p2.elim
        | some ρ3 =>
          rw [ht] at p2
          refine ⟨d, ρ2, g2, ι2, ρ3, r3, er2.ext e3, sr3, ht, fun σ' er' _ => ⟨ρ3, g2, ι2, er', sr3, ?_⟩⟩
          dsimp only at p2
          cases hb : s1 ρ3 g2 with
          | next ρ4 g4 => rw [hb] at p2; exact fun σ4 H4 ι4 x4 s4 er4 => ⟨ρ4, g4, ι4, er4, s4, (ex2.trans e3).trans x4, PostS.ext (e3.trans x4) p2⟩
          | cont ρ4 g4 => rw [hb] at p2; exact fun σ4 H4 ι4 x4 s4 er4 => ⟨ρ4, g4, ι4, er4, s4, (ex2.trans e3).trans x4, PostS.ext (e3.trans x4) p2⟩
          | brk ρ4 g4 => rw [hb] at p2; exact fun σ4 H4 ι4 x4 s4 er4 => p2 σ4 H4 ι4 (e3.trans x4) s4 er4
          | ret d4 g4 => rw [hb] at p2; exact fun v4 H4 ι4 x4 s4 r4 => p2 v4 H4 ι4 (e3.trans x4) s4 r4
          | exc e4 ρ4 g4 => rw [hb] at p2; exact fun c4 d4 σ4 H4 ι4 x4 => p2 c4 d4 σ4 H4 ι4 (e3.trans x4)
          | bad => rw [hb] at p2; exact p2.elim
end
end Py
end

section
set_option Elab.async false
set_option linter.all false
set_option maxRecDepth 100000
set_option autoImplicit false
/-! Soundness of comprehensions, calls of defs, defs. -/
namespace Py
open PySem L2
section
variable {K : PySem.W.Frag} {mg : Str → Option Value} {W : WX} {H H' : Hp} {ι ι' : List Addr}
theorem wipe_len : ∀ (vs : List Nat) (ρ : Env), (Py.wipe ρ vs).length = ρ.length
  | [], _ => rfl
  | v :: vs, ρ => by unfold Py.wipe; rw [List.length_set, wipe_len vs ρ]
theorem wipe_get {i : Nat} {d : D} : ∀ (vs : List Nat) (ρ : Env), (Py.wipe ρ vs)[i]? = some (some d) → ρ[i]? = some (some d) ∧ i ∉ vs
  | [], _, h => ⟨h, by simp⟩
  | v :: vs, ρ, h => by
    unfold Py.wipe at h
    by_cases hi : v = i
    · subst hi
      by_cases hl : v < (Py.wipe ρ vs).length
      · rw [List.getElem?_set_self hl] at h; cases h
      · rw [List.getElem?_eq_none (by simpa using hl)] at h; cases h
    · rw [List.getElem?_set_ne hi] at h
      obtain ⟨h1, h2⟩ := wipe_get vs ρ h
      exact ⟨h1, fun hm => (List.mem_cons.mp hm).elim (fun e => hi e.symm) h2⟩
theorem ER.wipe {ρ : Env} {σ : St} (er : ER K H ι ρ σ) (vs : List Nat) : ER K H ι (Py.wipe ρ vs) (L2.wipe σ vs) := by
  refine ⟨by rw [wipe_len, wipe_length]; exact er.len, fun i d h => ?_⟩
  obtain ⟨h1, h2⟩ := wipe_get vs ρ h
  obtain ⟨v, h3, h4⟩ := er.at_ i d h1
  exact ⟨v, by rw [wipe_out h2]; exact h3, h4⟩
theorem wipe_in {σ : St} {i : Nat} : ∀ {vs : List Nat}, i ∈ vs → i < σ.length → (L2.wipe σ vs)[i]? = some none
  | [], h, _ => by cases h
  | v :: vs, h, hl => by
    unfold L2.wipe
    by_cases e : v = i
    · subst e
      rw [List.getElem?_set_self (by rw [wipe_length]; exact hl)]
    · rw [List.getElem?_set_ne e]
      exact wipe_in ((List.mem_cons.mp h).elim (fun z => absurd z.symm e) id) hl
theorem keep_wipe {σ σ' : St} {vs : List Nat} (k : Keep vs (L2.wipe σ vs) σ') : L2.wipe σ' vs = L2.wipe σ vs := by
  have hl : σ'.length = σ.length := by rw [k.1, wipe_length]
  apply List.ext_getElem?
  intro i
  by_cases hi : i < σ.length
  · by_cases hm : i ∈ vs
    · rw [wipe_in hm (by omega), wipe_in hm hi]
    · rw [wipe_out hm, k.2 i hm]
  · rw [List.getElem?_eq_none (by rw [wipe_length]; omega), List.getElem?_eq_none (by rw [wipe_length]; omega)]
theorem mutOf_at {r : Nat} {g : G} {q : Nat} {xs : List D} (h : mutOf (.ref r) g = some (q, xs)) : g[r]? = some (.lst xs) := (mutOf_ref h).2
/-- a comprehension's reading -/
theorem lc_read {w : I} {t : Tg} {c : T} {m : M} {own : List Nat} {σ : St} {Q : VK} (h : tE K mg W (mLc w t c m own) σ H Q) :
    tLc (tI K mg W w) (tG K own t) (tT K mg W0 c) (tE K mg W0 m) own σ H Q := by
  obtain ⟨ρ, g, ι, er, s, p⟩ := h
  refine ⟨ρ, g, ι, er, s, (Post.bind p).imp fun it g1 H1 ι1 _ x1 s1 p1 J sim D hD => ?_⟩
  have key : ∀ H ι, SR_ K H ι g1 → H D = none → Ext K H1 H ι1 ι → ι.length = g1.length → (ι ++ [D])[g1.length]? = some D := fun H ι _ _ _ hl => by rw [← hl]; simp
  refine ⟨fun i n H => ∃ g ι, SR_ K H ι g ∧ Ext K H1 H ι1 ι ∧ ι[g1.length]? = some D ∧ Post K mg W σ H ι (lcGo it.get t c m (Py.wipe ρ own) g1.length n i g) fun d _ H' ι' => ∀ v, Rep K H' ι' d v → Q v H',
    ⟨it.n + 1, g1 ++ [.lst []], ι1 ++ [D], s1.newL hD .nil, (Ext.new hD).trans Ext.snoc, by rw [← s1.len]; simp, Post.ext ((Ext.new hD).trans Ext.snoc) p1⟩, ?_⟩
  rintro i n H2 ⟨g2, ι2, s2, x2, hr, p2⟩
  cases n with
  | zero => exact p2.elim
  | succ n =>
    obtain ⟨sim1, sim2⟩ := sim i H2 g2 ι2 x2 s2
    unfold lcGo at p2
    cases hit : it.get i g2 with
    | none => rw [hit] at p2; exact p2.elim
    | some o =>
      cases o with
      | none => rw [hit] at p2; exact .inl ⟨sim1 hit, p2.ok s2 _ (.ref hr)⟩
      | some d =>
        rw [hit] at p2
        dsimp only at p2
        obtain ⟨go, yl⟩ := sim2 d hit
        refine .inr ⟨go, fun H => ∃ g ι, SR_ K H ι g ∧ Ext K H1 H ι1 ι ∧ ι[g1.length]? = some D ∧ Post K mg W σ H ι (lcGo it.get t c m (Py.wipe ρ own) g1.length n (i + 1) g) fun d _ H' ι' => ∀ v, Rep K H' ι' d v → Q v H',
          fun H' h => ⟨n, Nat.lt_succ_self n, h⟩, fun x H3 hy => ?_⟩
        obtain ⟨x3, s3, r3⟩ := yl x H3 hy
        cases ht : t d (Py.wipe ρ own) with
        | none => rw [ht] at p2; exact p2.elim
        | some ρ2 =>
          rw [ht] at p2
          dsimp only at p2
          refine ⟨d, Py.wipe ρ own, g2, ι2, ρ2, r3, ((er.wipe own).ext (x1.trans x2)).ext x3, s3, ht, fun σ2 er2 kp => ⟨keep_wipe kp, ρ2, g2, ι2, er2, s3, ?_⟩⟩
          cases hc : c ρ2 g2 with
          | bad => rw [hc] at p2; exact p2.elim
          | exc e g3 => rw [hc] at p2; exact p2.elim
          | ok b g3 =>
            rw [hc] at p2
            cases b with
            | false =>
              intro H4 ι4 x4 s4
              exact ⟨g3, ι4, s4, (x2.trans x3).trans x4, x4.pre _ _ (x3.pre _ _ hr), Post.ext (x3.trans x4) p2⟩
            | true =>
              dsimp only at p2
              intro H4 ι4 x4 s4
              refine ⟨ρ2, g3, ι4, er2.ext x4, s4, ?_⟩
              cases hm : m ρ2 g3 with
              | bad => rw [hm] at p2; exact p2.elim
              | exc e g4 => rw [hm] at p2; exact p2.elim
              | ok y g4 =>
                rw [hm] at p2
                dsimp only at p2
                intro H5 ι5 x5 s5 v5 r5
                cases hq : mutOf (.ref g1.length) g4 with
                | none => rw [hq] at p2; exact p2.elim
                | some q =>
                  obtain ⟨q, xs⟩ := q
                  rw [hq] at p2
                  dsimp only at p2
                  have hr5 := x5.pre _ _ (x4.pre _ _ (x3.pre _ _ hr))
                  have hg := mutOf_at hq
                  obtain ⟨acc, h6, h7⟩ := s5.lst hr5 hg
                  by_cases hl : xs.length < LINE
                  · rw [if_pos hl] at p2
                    refine ⟨acc, h6, by rw [← h7.len, line_eq]; exact hl, _, ι5, s5.wrL hg hr5 (h7.append (.cons r5 .nil)) h6, ?_, hr5, ?_⟩
                    · exact (((x2.trans x3).trans x4).trans x5).trans (Ext.wr h6)
                    · exact Post.ext (((x3.trans x4).trans x5).trans (Ext.wr h6)) p2
                  · rw [if_neg hl] at p2
                    exact p2.elim
end
section
variable {X : Cx} {W : WX} {a b c e : Expr} {es : List Expr} {pos : Pos} {ma mb m : M}
theorem cs_nil : PTs X [] (tT X.K X.mg W Py.tYes) := ⟨fun pins s σ H Q I ⟨ρ, g, ι, er, sr, p⟩ => pts_nil.run pins s σ H Q I (p.ok sr)⟩
theorem cs_one {t : T} (h : TTt X W c t) : PTs X [c] (tT X.K X.mg W t) := pts_one h
theorem e_lc {elt tg iter : Expr} {ifs : List Expr} {scope : Scope} (own : List (Str × Nat)) {w : I} {tgt : Tg} {t : T} (hc : X.calm = true) (hN : X.N.Nodup) (hi : II X W tg iter w) (ok : BlkOk X.N X.env.scope scope own)
    (hg : ∀ (s : Shared) (H : Hp) (C : Addr) (cl : List (Str × Addr)) (fp : List Addr), GG (X.blk s H scope (compEnvC scope cl C X.env) fp) (own.map (·.2)) tg tgt)
    (ht : ∀ (s : Shared) (H : Hp) (C : Addr) (cl : List (Str × Addr)) (fp : List Addr), PTs (X.blk s H scope (compEnvC scope cl C X.env) fp) ifs (tT X.K X.mg W0 t))
    (he : ∀ (s : Shared) (H : Hp) (C : Addr) (cl : List (Str × Addr)) (fp : List Addr), EE (X.blk s H scope (compEnvC scope cl C X.env) fp) W0 elt m) (hs : ∀ x, foldedSetIterable iter X.env x = pure x := by intro _; rfl) :
    EE X W (.ListComp elt [⟨tg, iter, ifs, 0⟩] scope pos) (mLc w tgt t m (own.map (·.2))) := (pe_lc hc hN hi ok hg ht he hs).mono fun σ H Q h => lc_read h
theorem s_setLc (i : Nat) {y : Str} {py spos : Pos} {elt tg iter : Expr} {ifs : List Expr} {scope : Scope} (own : List (Str × Nat)) {w : I} {tgt : Tg} {t : T} (hc : X.calm = true) (hN : X.N.Nodup)
    (hi : II X W tg iter w) (ok : BlkOk X.N X.env.scope scope own)
    (hg : ∀ (s : Shared) (H : Hp) (C : Addr) (cl : List (Str × Addr)) (fp : List Addr), GG (X.blk s H scope (compEnvC scope cl C X.env) fp) (own.map (·.2)) tg tgt)
    (ht : ∀ (s : Shared) (H : Hp) (C : Addr) (cl : List (Str × Addr)) (fp : List Addr), PTs (X.blk s H scope (compEnvC scope cl C X.env) fp) ifs (tT X.K X.mg W0 t))
    (he : ∀ (s : Shared) (H : Hp) (C : Addr) (cl : List (Str × Addr)) (fp : List Addr), EE (X.blk s H scope (compEnvC scope cl C X.env) fp) W0 elt m)
    (hy : X.N[i]? = some y := by rfl) (hyl : X.env.scope.names.lookup y = some .local := by rfl)
    (hsw : swapsWith (.ListComp elt [⟨tg, iter, ifs, 0⟩] scope pos) (some (.Name y py)) spos.line X.env = pure true := by exact sw_true rfl rfl rfl (by decide +kernel)) (hs : ∀ x, foldedSetIterable iter X.env x = pure x := by intro _; rfl) :
    SS X W (.Assign [.Name y py] (.ListComp elt [⟨tg, iter, ifs, 0⟩] scope pos) spos) (sAsg (mLc w tgt t m (own.map (·.2))) (Py.gName i)) := (ps_setLc hc hN hy hyl hsw hi ok hg ht he hs).mono fun E σ H ⟨ρ, g, ι, er, s, p⟩ => by
  refine lc_read ⟨ρ, g, ι, er, s, (PostS.onR er p).imp fun d1 g1 H1 ι1 _ x1 s1 p1 v1 r1 => ?_⟩
  exact p1.next s1 ((er.ext x1).set r1 i)
/-! ### defs -/
/-- what a def promises: f of the data -/
def spF (K : PySem.W.Frag) (mg : Str → Option Value) (n : Nat) (f : F) : Sp := fun vs H Q E => ∃ ds g ι, SR_ K H ι g ∧ Reps K H ι ds vs ∧ ds.length = n ∧ Post K mg (fun c d _ H' => E c d H') [] H ι (f ds g) fun d _ H' ι' => ∀ v, Rep K H' ι' d v → Q v H'
/-- the wish of exceptions -/
abbrev wx (E : XK) : WX := fun c d _ H => E c d H
theorem post_w {K mg} {α : Type} {E : XK} {σ σ' : St} {H : Hp} {ι : List Addr} {r : R α} {k : α → G → Hp → List Addr → Prop} (p : Post K mg (wx E) σ H ι r k) : Post K mg (wx E) σ' H ι r k := by
  cases r <;> exact p
/-- a def that may be called by its name -/
structure Cal (P : Program) (w : World) (K : PySem.W.Frag) (mg : Str → Option Value) (base : Heap) (CX : CXT) (k : Nat) (x : Str) (n : Nat) (f : F) : Prop where
  ex : ∃ (a : Addr) (fd : FuncData) (ps : List Str), FnOk P w K mg base CX k a fd ps (spF K mg n f) ∧ mg x = some (.ref a) ∧ PySem.W.keepIn K (.ref a) = true ∧ Binds K fd ps []
variable {CX : CXT} {k j n : Nat} {x : Str} {p : Pos} {f : F} {E : XK} {as : A}
theorem e_call (cl : Cal X.prog X.w X.K X.mg X.base CX k x n f) (hr : Room j X.A) (hk : k ≤ j) (hx : Passes CX X E) (ha : AA X (wx E) (e :: es) as) (hg : Gl X x := by rfl)
    (hdb : (x == ("__debug__" : Str)) = false := by decide) (he : starEach (e :: es) X.env = (false, eval e X.env) :: starEach es X.env := by rfl) (hpl : (backTo pos (starEach es X.env)).any (·.1) = false := by rfl)
    (hn : ∀ ρ g ds g', as ρ g = .ok ds g' → ds.length = n) : EE X (wx E) (.Call (.Name x p) (e :: es) [] pos) (mCall f as) := by
  obtain ⟨a, fd, ps, F, hm, kp, b⟩ := cl.ex
  refine (pe_call F (hr.mono hk) hg hm kp b .nil hx ha hdb he hpl).mono fun σ H Q ⟨ρ, g, ι, er, s, p⟩ => ?_
  refine ⟨ρ, g, ι, er, s, (Post.bind p).imp fun ds g1 H1 ι1 e1 x1 s1 p1 vs rs => ?_⟩
  show spF X.K X.mg n f (vs ++ []) H1 Q E
  rw [List.append_nil]
  exact ⟨ds, g1, ι1, s1, rs, hn ρ g ds g1 e1, post_w p1⟩
theorem e_call0 (cl : Cal X.prog X.w X.K X.mg X.base CX k x 0 f) (hr : Room j X.A) (hk : k ≤ j) (hx : Passes CX X E) (hg : Gl X x := by rfl)
    (hdb : (x == ("__debug__" : Str)) = false := by decide) : EE X (wx E) (.Call (.Name x p) [] [] pos) (mCall f mNil) := by
  obtain ⟨a, fd, ps, F, hm, kp, b⟩ := cl.ex
  refine (pe_call0 F (hr.mono hk) hg hm kp b .nil hx hdb).mono fun σ H Q ⟨ρ, g, ι, er, s, p⟩ => ?_
  exact ⟨[], g, ι, s, .nil, rfl, post_w p⟩
theorem as_nil {n : Nat} (h : n = 0) : ∀ ρ g ds g', mNil ρ g = .ok ds g' → ds.length = n := fun ρ g ds g' e => by cases e; exact h.symm
theorem as_cons {m : M} {as : A} {n : Nat} (h : ∀ ρ g ds g', as ρ g = .ok ds g' → ds.length = n) : ∀ ρ g ds g', mCons m as ρ g = .ok ds g' → ds.length = n + 1 := fun ρ g ds g' e => by
  unfold mCons at e
  cases h1 : m ρ g with
  | ok d g1 =>
    rw [h1] at e
    simp only [Py.R.bind_ok] at e
    cases h2 : as ρ g1 with
    | ok es g2 =>
      rw [h2] at e
      simp only [Py.R.bind_ok] at e
      cases e
      simp [h ρ g1 es _ h2]
    | exc x g2 => rw [h2] at e; cases e
    | bad => rw [h2] at e; cases e
  | exc x g1 => rw [h1] at e; cases e
  | bad => rw [h1] at e; cases e
/-- the start of a def -/
theorem er_start {K : PySem.W.Frag} {H : Hp} {ι : List Addr} {ds : List D} {vs : List V} (N : List Str) (r : Reps K H ι ds vs) : ER K H ι (ds.map some ++ List.replicate (N.length - ds.length) none) (L2.start N vs) := by
  refine ⟨by unfold L2.start; simp [r.len], fun i d h => ?_⟩
  by_cases hi : i < ds.length
  · rw [List.getElem?_append_left (by simpa using hi), List.getElem?_map, Option.map_eq_some_iff] at h
    obtain ⟨d', h1, h2⟩ := h
    cases h2
    obtain ⟨v, h3, h4⟩ := r.get h1
    exact ⟨v, by unfold L2.start; rw [List.getElem?_append_left (by rw [List.length_map, ← r.len]; exact hi), List.getElem?_map, h3]; rfl, h4⟩
  · rw [List.getElem?_append_right (by simpa using hi)] at h
    have := List.getElem?_eq_some_iff.mp h
    obtain ⟨hl, e⟩ := this
    simp at e
/-- a def's body read from its promise -/
theorem body_read {K : PySem.W.Frag} {mg : Str → Option Value} {n m : Nat} {b : S} {N : List Str} {vs : List V} {H : Hp} {Q : VK} {E : XK} (hm : N.length = m) (h : spF K mg n (fn n m b) vs H Q E) :
    tS K mg (wx E) b { nx := fun _ H' => Q .non H', rt := Q } (L2.start N vs) H := by
  obtain ⟨ds, g, ι, s, r, hl, p⟩ := h
  unfold fn at p
  rw [if_pos hl] at p
  subst hm
  have er := er_start N r
  rw [← hl] at p
  refine ⟨_, g, ι, er, s, ?_⟩
  cases hb : b (ds.map some ++ List.replicate (N.length - ds.length) none) g with
  | next ρ g1 => rw [hb] at p; exact fun σ' H' ι' x s' er' => p H' ι' x s' _ .non
  | ret d g1 => rw [hb] at p; exact fun v H' ι' x s' r' => p H' ι' x s' v r'
  | exc e ρ g1 => rw [hb] at p; exact fun c d σ' H' ι' x s' er' z => p c d H' ι' x s' z
  | brk ρ g1 => rw [hb] at p; exact p.elim
  | cont ρ g1 => rw [hb] at p; exact p.elim
  | bad => rw [hb] at p; exact p.elim
theorem sp_len {K : PySem.W.Frag} {mg : Str → Option Value} {n : Nat} {f : F} {ps : List Str} (h : ps.length = n) : ∀ vs H Q E, spF K mg n f vs H Q E → vs.length = ps.length := fun vs H Q E ⟨ds, g, ι, s, r, hl, p⟩ => by rw [h, ← hl, r.len]
theorem pass_0 {X : Cx} {E : XK} : Passes CX0 X E := fun _ _ _ _ _ _ _ h => h.elim
/-- a def that is never asked -/
theorem cal_bad {P : Program} {w : World} {K : PySem.W.Frag} {mg : Str → Option Value} {base : Heap} {CX : CXT} {k n : Nat} {x : Str} {a : Addr} {fd : FuncData} {ps : List Str} (kp : PySem.W.keepIn K (.ref a) = true) (hm : mg x = some (.ref a)) (b : Binds K fd ps []) (hl : ps.length = n) :
    Cal P w K mg base CX k x n fun _ _ => .bad := ⟨a, fd, ps, ⟨sp_len hl, fun A outer s H args us vs Q E hr he hb hv hs => by
  obtain ⟨ds, g, ι, _, _, _, p⟩ := hs
  exact p.elim⟩, hm, kp, b⟩
end
end Py
end

section
set_option Elab.async false
set_option linter.all false
set_option maxRecDepth 100000
set_option maxHeartbeats 2000000
/-! enumerate of a tuple; the joined rule. -/
namespace PyI
open PySem PySem.Spec PyProof.Rows L2
open AutoSeq1 (wpAny_loadPart')
theorem meets_enumT (l : Addr) (items : Array Value) :
    Meets (Builtin.«enumerate.__new__» ⟨[.type "enumerate", .ref l], []⟩) (fun _ R s => s.heap.IsTuple l items ∧
      R (.ok (.ret (.ref (s.heap.push { cls := .type "tuple_iterator", data := .fields #[.ref l, .int 0 0] }).objs.size)))
        { s with heap := (s.heap.push { cls := .type "tuple_iterator", data := .fields #[.ref l, .int 0 0] }).push { cls := .type "enumerate", data := .fields #[.none, .bool false, .ref s.heap.objs.size, rawInt 0, .none, .none] } }) :=
  .of_wp fun prog w A R s h => by
    obtain ⟨hp, g, d, tk, os⟩ := s; obtain ⟨hL, h⟩ := h
    have hsub := sub_enumerate
    wp_walk
    refine wpAny_stack_any fun st => wpAny_pure ?_
    split
    · rename_i c _ _ _ _ _
      cases (c == Value.type "enumerate") <;> (wp_walk using wpAny_pyIter_tuple hL; exact ⟨_, rfl, h⟩)
    · (wp_walk using wpAny_pyIter_tuple hL; exact ⟨_, rfl, h⟩)
theorem call_enumT {prog : Program} {w : World} {A : Around} {E : Value → Shared → Prop} {s : Shared} {l : Addr} {items : Array Value} {Q : Value → Shared → Prop} (hL : s.heap.IsTuple l items)
    (h : ∀ h', IsEnum h' (s.heap.objs.size + 1) s.heap.objs.size 0 .none → h'.IsTupleIter s.heap.objs.size l 0 → h'.objs.size = s.heap.objs.size + 2 → (∀ b o, s.heap.get? b = some o → h'.get? b = some o) → Q (.ref (s.heap.objs.size + 1)) { s with heap := h' }) :
    wpAny (model prog w) A (call (.type "enumerate") [.ref l]) Q E s := by
  refine callType_new F.called_enumerate (by decide) (F.typeCall_enumerate_1 _) (F.newCall_enumerate_1 _) (fun obj => F.args_object_init_2 obj _) F.entry_enumerate_new (meets_enumT l items) ⟨hL, ?_⟩
  have hz : (s.heap.push { cls := .type "tuple_iterator", data := .fields #[.ref l, .int 0 0] }).objs.size = s.heap.objs.size + 1 := Heap.size_push ..
  show _ ∧ _
  rw [hz]
  have he : IsEnum ((s.heap.push { cls := .type "tuple_iterator", data := .fields #[.ref l, .int 0 0] }).push { cls := .type "enumerate", data := .fields #[.none, .bool false, .ref s.heap.objs.size, rawInt 0, .none, .none] }) (s.heap.objs.size + 1) s.heap.objs.size 0 .none := by
    have := Heap.get?_push_size (s.heap.push { cls := .type "tuple_iterator", data := .fields #[.ref l, .int 0 0] }) (o := { cls := .type "enumerate", data := .fields #[.none, .bool false, .ref s.heap.objs.size, rawInt 0, .none, .none] }) rfl
    rw [hz] at this; exact this
  refine ⟨⟨_, he, rfl⟩, h _ he ⟨_, Heap.get?_push_of_some _ (Heap.get?_push_size _ rfl), rfl, rfl⟩ (by rw [Heap.size_push, hz]) fun b o x => Heap.get?_push_of_some _ (Heap.get?_push_of_some _ x)⟩
/-- the tuple at a, each item in a new pair -/
def IteT (K : PySem.W.Frag) (a : Addr) : It :=
  ⟨fun i H => ∃ (xs : List V) (x : V), SqT K H a xs ∧ xs[i]? = some x, fun i H v H' => ∃ T x, v = .ref T ∧ H T = none ∧ H' = upd H T (.tup [.int (i : Nat), x]) ∧ ∀ xs, SqT K H a xs → xs[i]? = some x, fun i H => ∃ xs : List V, SqT K H a xs ∧ xs.length ≤ i⟩
theorem turn_enumT {P : Program} {w : World} {K : PySem.W.Frag} {elts : List Expr} {kk : Nat} {tpos : Pos} (a e it : Addr) (hne : e ≠ it) (hai : a ≠ it) (hae : a ≠ e) :
    Turn P w K (.Tuple elts kk tpos) (IteT K a) [e, it] e (fun i h => (∃ old, IsEnum h e it ((i : Nat) : Int) old) ∧ h.IsTupleIter it a i) where
  mem := by simp
  obj := fun i h st b hb => by
    obtain ⟨⟨old, he⟩, o, ho, hc, hd⟩ := st
    rcases (show b = e ∨ b = it by simpa using hb) with z | z
    · rw [z]; exact ⟨_, he, fun v q => nomatch q⟩
    · rw [z]; exact ⟨o, ho, fun v q => by rw [hd] at q; cases q⟩
  keep := fun i h h' st k => let ⟨⟨old, he⟩, hi⟩ := st; ⟨⟨old, k e (by simp) _ he⟩, hi.at fun o q => k it (by simp) o q⟩
  item := by
    intro X hP hw hK hc i pins s σ H E I hf st hg
    subst hP hw hK
    obtain ⟨⟨old, he⟩, hit⟩ := st
    obtain ⟨xs, x, hq, hx⟩ := hg
    obtain ⟨its, rv, p, hz⟩ := I.tuple hq
    obtain ⟨u, hu, ru⟩ := rv.get hx
    have hel : e < s.heap.objs.size := Heap.lt_size he
    have hil : it < s.heap.objs.size := by obtain ⟨_, q, _⟩ := hit; exact Heap.lt_size q
    have hD := Draws.tuple (prog := X.prog) (w := X.w) (A := X.A.in1) (I.ok.hd hc) it a hai its.toArray
    have hlt : i < its.toArray.size := by
      have := (List.getElem?_eq_some_iff.mp hu).1
      simpa using this
    refine wpAny_pyNext_enum_itemD hD he ⟨hit, p⟩ hlt hne (by simp [hne, Ne.symm hae]) fun y h' tk hy ho hst hT hsz hk => ?_
    obtain ⟨hit', _⟩ := hst
    have ey : y = u := by
      have hy' : its[i]? = some y := by simpa using hy
      rw [hu] at hy'; exact (Option.some.inj hy').symm
    subst ey
    refine ⟨_, rfl, wpAny_letOwnedTupleGo_enum (s := { s with heap := h', toks := tk + 1 }) ho fun h'' he' sb => ?_⟩
    have hT2 : h''.get? s.heap.objs.size = some { cls := .type "tuple", data := .seq #[.int i tk, y] } := (sb.2 _ (Nat.ne_of_gt hel)).trans hT
    have new : ObjOk X.prog X.w (upd H s.heap.objs.size (.tup [.int (i : Nat), x])) h'' s.heap.objs.size (.tup [.int (i : Nat), x]) :=
      ⟨by show 2 ≤ sizeLine; decide, [.int i tk, y], .cons ⟨_, rfl⟩ (.cons ru .nil), ⟨_, hT2, rfl, _, rfl⟩⟩
    have I1 : Inv X pins σ (upd H s.heap.objs.size (.tup [.int (i : Nat), x])) { s with heap := h'', toks := tk + 1 } :=
      I.turnedNew (ch := [e, it]) (fun b ob hb q => (sb.2 b (fun z => hb (by simp [z]))).trans (hk b ob (fun z => hb (by simp [z])) (fun z => hb (by simp [z])) q)) hf (Nat.le_refl _) new
    refine ⟨.ref s.heap.objs.size, _, I1, rfl, ⟨_, x, rfl, I.hok.fresh (Nat.le_refl _), rfl, fun ys hy => by rw [I.tuple_inj hy hq]; exact hx⟩, ⟨⟨y, ?_⟩, hit'.at fun o q => (sb.2 it (Ne.symm hne)).trans q⟩, fun b hb => ?_⟩
    · have e1 : ((i + 1 : Nat) : Int) = (i : Int) + 1 := by omega
      rw [e1]; exact he'
    · have hb' : b < s.heap.objs.size := by
        rcases (show b = e ∨ b = it by simpa using hb) with z | z
        · rw [z]; exact hel
        · rw [z]; exact hil
      rw [upd_ne (Nat.ne_of_lt hb')]
      exact (hf b hb).1
  done := by
    intro X hP hw hK hc i pins s σ H E I hf st hg
    subst hP hw hK
    obtain ⟨⟨old, he⟩, hit⟩ := st
    obtain ⟨xs, hq, hx⟩ := hg
    obtain ⟨its, rv, p, hz⟩ := I.tuple hq
    obtain ⟨f0, f1, f2, f3, f4, f5⟩ := hf it (by simp)
    have hl := rv.length
    have hT : s.TypeIs (.ref e) "enumerate" := ⟨_, he, rfl⟩
    have hh : X.A.handled = none := I.ok.hd hc
    unfold pyNext
    refine wpAny_bind (wpAny_attempt (wpAny_callSpecial?_slot (name := Str.ofString "__next__") hT F.slot_enumerate_next (wpAny_call_entry F.slot_enumerate_next hT F.entry_enumerate_next ?_ (F.args_enumerate_next_1 _))))
    show wpAny _ _ (field (.ref e) 2 >>= _) _ _ _
    refine wpAny_bind (wpAny_field he rfl (x := .ref it) rfl (wpAny_bind (wpAny_nextOf_tuple_end (A := X.A.in1) hh hit p (by simp; omega) fun h' x he' hx' => ?_)))
    obtain ⟨o, ho, hc'⟩ := hx'
    refine wpAny_bind (wpAny_isInstance (T := "StopIteration") (b := true) ⟨o, ho, hc'⟩ isSubtype_stop ?_)
    exact wpAny_pure ⟨rfl, I.turned (t' := s.toks) (fun b o hb q => he' b o hb q) f0 f1 f3 f4 f5⟩
  self := fun A i s Q E st h => let ⟨⟨_, he⟩, _⟩ := st; wpAny_pyIter_enum he h
/-- enumerate of a list, of a tuple -/
def iEnumA (K : PySem.W.Frag) (ta : TA) : TI := fun σ H R => ta σ H fun vs H1 => ∃ a xs, vs = [.ref a] ∧ ((SqL K H1 a xs ∧ R (Ite K a) H1) ∨ (SqT K H1 a xs ∧ R (IteT K a) H1))
theorem pi_enumA {X : Cx} {e : Expr} {ta : TA} {p pos tpos : Pos} {elts : List Expr} {kk : Nat} (hg : Gl X "enumerate") (hm : X.mg "enumerate" = none) (ha : PA X [e] ta) (hs : starEach [e] X.env = [(false, eval e X.env)] := by rfl) :
    PI X (.Tuple elts kk tpos) (.Call (.Name "enumerate" p) [e] [] pos) (iEnumA X.K ta) := by
  refine ⟨fun pins s σ H R I h => Call_ (ld_blt I hg hm boot_enumerate (PyProof.Rows.callWith_type1 (thn (ha.run pos pins s σ H _ I h) fun us s1 ⟨vs, H1, I1, r1, q1⟩ => ?_) hs rfl))⟩
  obtain ⟨a, xs, ex, hq⟩ := q1
  subst ex
  cases r1 with
  | cons r rr =>
    cases rr
    cases r
    have fp : ∀ b ∈ [s1.heap.objs.size + 1, s1.heap.objs.size], FpOk X pins H1 b := fun b hb => by
      have hle : s1.heap.objs.size ≤ b := by
        rcases (show b = s1.heap.objs.size + 1 ∨ b = s1.heap.objs.size by simpa using hb) with z | z
        · rw [z]; exact Nat.le_add_right _ _
        · rw [z]; exact Nat.le_refl _
      exact I1.fpOk hle (I1.hok.fresh hle)
    rcases hq with ⟨hq, q⟩ | ⟨hq, q⟩
    · obtain ⟨its, rv, p', hz⟩ := I1.list hq
      refine call_enumerate_list p'.isList fun h' he hit hsz hk => wpAny_pyIter_enum he ?_
      exact ⟨s1.heap.objs.size + 1, [s1.heap.objs.size + 1, s1.heap.objs.size], _, _, H1, rfl, I1.kept (t' := s1.toks) hk, turn_enum a (s1.heap.objs.size + 1) s1.heap.objs.size, ⟨⟨.none, he⟩, hit, Nat.succ_ne_self _⟩, fp, q⟩
    · obtain ⟨its, rv, p', hz⟩ := I1.tuple hq
      have hlt : a < s1.heap.objs.size := by obtain ⟨_, q, _⟩ := p'; exact Heap.lt_size q
      refine call_enumT p' fun h' he hit hsz hk => wpAny_pyIter_enum he ?_
      exact ⟨s1.heap.objs.size + 1, [s1.heap.objs.size + 1, s1.heap.objs.size], _, _, H1, rfl, I1.kept (t' := s1.toks) hk, turn_enumT a (s1.heap.objs.size + 1) s1.heap.objs.size (Nat.succ_ne_self _) (Nat.ne_of_lt hlt) (Nat.ne_of_lt (Nat.lt_succ_of_lt hlt)), ⟨⟨.none, he⟩, hit⟩, fp, q⟩
end PyI
namespace Py
open PySem L2
section
variable {K : PySem.W.Frag} {H : Hp} {ι : List Addr}
theorem pair_ok {K H ι g} {T : Addr} {i : Nat} {d : D} {v : V} (s : SR_ K H ι g) (hT : H T = none) (r : Rep K H ι d v) : Ext K H (upd H T (.tup [.int (i : Nat), v])) ι ι ∧ SR_ K (upd H T (.tup [.int (i : Nat), v])) ι g ∧ Rep K (upd H T (.tup [.int (i : Nat), v])) ι (.tup [.int i, d]) (.ref T) :=
  ⟨Ext.new hT, s.new hT, .tup (.inl (.inl upd_same)) (.cons (.int _) (.cons (r.ext (Ext.new hT)) .nil))⟩
theorem sim_enL {r : Nat} {a : Addr} {n : Nat} (ha : ι[r]? = some a) : Sim K H ι (Ite K a) (itEn (itR r n)) := by
  intro i H1 g ι1 x s
  obtain ⟨s1, s2⟩ := sim_list (K := K) (H := H) (n := n) ha i H1 g ι1 x s
  refine ⟨fun h => s1 ?_, fun d h => ?_⟩
  · simp only [itEn, Option.map_eq_some_iff] at h
    obtain ⟨o, h1, h2⟩ := h
    cases o with
    | none => exact h1
    | some d => cases h2
  · simp only [itEn, Option.map_eq_some_iff] at h
    obtain ⟨o, h1, h2⟩ := h
    cases o with
    | none => obtain ⟨_, z, _⟩ := h2; cases z
    | some e =>
      obtain ⟨e', z, rfl⟩ := h2
      cases z
      obtain ⟨go, yl⟩ := s2 e h1
      refine ⟨go, fun y H' hy => ?_⟩
      obtain ⟨T, v, rfl, hT, rfl, hv⟩ := hy
      obtain ⟨xs, v', hq, hv'⟩ := go
      have := hv xs hq
      rw [hv'] at this
      cases this
      obtain ⟨_, _, r⟩ := yl v H1 ⟨rfl, hv⟩
      exact pair_ok s hT r
theorem sim_enT {a : Addr} {ds : List D} {vs : List V} (hq : SqT K H a vs) (hr : Reps K H ι ds vs) : Sim K H ι (PyI.IteT K a) (itEn (itL ds)) := by
  intro i H1 g ι1 x s
  obtain ⟨s1, s2⟩ := sim_tup (K := K) (H := H) hq hr i H1 g ι1 x s
  refine ⟨fun h => s1 ?_, fun d h => ?_⟩
  · simp only [itEn, Option.map_eq_some_iff] at h
    obtain ⟨o, h1, h2⟩ := h
    cases o with
    | none => exact h1
    | some d => cases h2
  · simp only [itEn, Option.map_eq_some_iff] at h
    obtain ⟨o, h1, h2⟩ := h
    cases o with
    | none => obtain ⟨_, z, _⟩ := h2; cases z
    | some e =>
      obtain ⟨e', z, rfl⟩ := h2
      cases z
      obtain ⟨go, yl⟩ := s2 e h1
      refine ⟨go, fun y H' hy => ?_⟩
      obtain ⟨T, v, rfl, hT, rfl, hv⟩ := hy
      obtain ⟨xs, v', hq, hv'⟩ := go
      have := hv xs hq
      rw [hv'] at this
      cases this
      obtain ⟨_, _, r⟩ := yl v H1 ⟨rfl, hv⟩
      exact pair_ok s hT r
end
section
variable {X : Cx} {W : WX} {e : Expr} {p pos tpos : Pos} {elts : List Expr} {kk : Nat} {m : M}
theorem i_enum (hm : X.mg "enumerate" = none) (h : EE X W e m) (hg : Gl X "enumerate" := by rfl) (hs : starEach [e] X.env = (false, eval e X.env) :: starEach [] X.env := by rfl) : II X W (.Tuple elts kk tpos) (.Call (.Name "enumerate" p) [e] [] pos) (iEnum m) := by
  refine ⟨fun pins s σ H R I ⟨ρ, g, ι, er, sr, p⟩ => ?_⟩
  refine (PyI.pi_enumA (tpos := tpos) (elts := elts) (kk := kk) hg hm (pa_cons h pa_nil hs) hs).run pins s σ H R I ⟨ρ, g, ι, er, sr, (Post.bind p).imp fun d g1 H1 ι1 _ x1 s1 p1 v r => ?_⟩
  cases d with
  | tup ds =>
    have p1 := p1.ok s1
    cases r with
    | @tup _ vs q ht hr => exact ⟨q, vs, rfl, .inr ⟨ht, p1 _ (sim_enT ht hr)⟩⟩
  | ref rr =>
    unfold iterOf at p1
    dsimp only at p1
    cases hl : lstOf (.ref rr) g1 with
    | none => rw [hl] at p1; exact p1.elim
    | some xs =>
      rw [hl] at p1
      have p1 := p1.ok s1
      obtain ⟨a', vs, e1, hq, hr⟩ := s1.list r hl
      subst e1
      cases r with
      | ref ha => exact ⟨a', vs, rfl, .inl ⟨hq, p1 _ (sim_enL ha)⟩⟩
  | str z => exact p1.elim
  | non => exact p1.elim
  | bl b => exact p1.elim
  | int i => exact p1.elim
  | adr a => exact p1.elim
end
end Py
end

section
set_option Elab.async false
set_option linter.all false
set_option maxRecDepth 100000
set_option maxHeartbeats 2000000
/-! An own exception whose __init__ says super().__init__(text) and stores its fields: made. -/
namespace PyX
open PySem PySem.W PySem.Calls PyProof.Rows PySem.HandSPX
/-- what the written part says of an exception's class at C; its __init__ stands at fI, written in the class at D; fs: its fields -/
structure HErr (K : Frag) (prog : Program) (C fI D : Addr) (fs : List Str) (params : Arguments) (body : List Stmt) (scope : Scope) : Prop where
  cls : ∃ nm q N bs bm sn sub ab col dd k0 k1 k2 k3 k5, K.lookup C = some (excClassObj nm q C N bs bm true sn sub ab col dd k0 k1 k2 k3 k5 "ValueError.__new__") ∧ refsVE bm = true
  sa : findIn K (.ref C) "__setattr__" = some (some (.builtin "object.__setattr__"))
  no : ∀ f ∈ fs, findIn K (.ref C) f = some none
  iC : findIn K (.ref C) "__init__" = some (some (.ref fI))
  tI : typeIn K (.ref fI) = some (.type "function")
  kC : keepIn K (.ref C) = true
  exC : subIn K (.ref C) (.type "BaseException") = some true
  vC : subIn K (.ref C) (.type "ValueError") = some true
  tyC : typeIn K (.ref C) = some (.type "type")
  fn : ∃ (oc oc2 oc3 : Value) (od od2 od3 : Option Addr) (doc pm : Value) (an : Option Addr) (cda cc : Addr) (ct : Value) (sl sl2 sl3 : Array (Option Value)) (q : Str) (vs : Array Value) (file : Str) (tf : Tok),
    K.lookup fI = some ⟨oc, od, .func (ksFn "__init__" q params body scope .none .none doc pm an (.ref cda) ct cc), sl⟩ ∧ codeIn K (.ref cda) q = true ∧
    K.lookup cda = some ⟨oc2, od2, .fields vs, sl2⟩ ∧ vs[2]? = some (.str file tf) ∧ ((prog.main.file : Str) == file) = true ∧ K.lookup cc = some ⟨oc3, od3, .cell (some (.ref D)), sl3⟩
  cD : ∃ cdD, clsIn K D = some cdD
  mD : mroIn K C (.ref D) = some true
  sup : ks_superIn K C D "__init__" = some (some (.builtin "ValueError.__init__"))
  op : nsIn K cStatics "thirdparty.any" = some none
  top : (prog.main.scope.names.lookup ("super" : Str)).isSome = false
section
variable {prog : Program} {w : World} {A : Around} {E : Value → Shared → Prop} {h : Heap} {g : Array GenState} {d : Drawn} {t : Nat} {os : OsState}
variable {nm q : Str} {C N : Addr} {bs bm : List Value} {hdct : Bool} {sn : List Str} {sub : List Value} {ab : Bool} {col : Option Bool} {dd : Option Addr} {k0 k1 k2 k3 k5 : Option Value}
theorem call_mw {u e t0 : Addr} {rest : List Value} {Q : Value → Shared → Prop}
    (hC : h.get? C = some (excClassObj nm q C N bs bm hdct sn sub ab col dd k0 k1 k2 k3 k5 "ValueError.__new__")) (he : h.get? e = some (excO C t0)) (hu : h.get? u = some (kxs_mw "ValueError.__init__" e)) (hrest : rest.length ≤ sizeLine)
    (hq : ∀ h' t1, (∀ b o, b ≠ e → h.get? b = some o → h'.get? b = some o) → h'.get? e = some (excO C t1) → Q .none ⟨h', g, d, t, os⟩) :
    wpAny (model prog w) A (call (.ref u) rest) Q E ⟨h, g, d, t, os⟩ := by
  have FB := PySem.F.excBase_ValueError
  have mw1 : (Value.type "method-wrapper" == Value.type "method" || Value.type "method-wrapper" == Value.type "builtin_function_or_method" || Value.type "method-wrapper" == Value.type "method-wrapper") = true := by decide
  refine wpAny_call (codeAny_of_tree ?_); show wpAny _ A.in1 (callAny (.ref u) ⟨rest, []⟩) _ _ _; simp only [callAny]
  refine wpAny_bind (wpAny_load hu ?_); simp only [kxs_mw, mw1, if_true]
  refine KFB.if_so (by decide) (wpAny_bind (check_bound_init FB.toExcCallFacts hC he rfl (wpAny_bind (wpAny_pure (wpAny_pure ?_)))))
  refine ⟨plainId_quiet FB.init.plain _, codeAny_builtin FB.initEntry ?_⟩
  exact exc_init_tree (cls := .ref C) (t0 := t0) (dv := none) (c2 := .none) (c3 := .none) (b4 := .bool false) he hrest fun h' k e' _ => hq h' _ k e'
end
/-! ### __init__ -/
/-- the positions of a store self.f = f -/
structure PosF where
  q1 : Pos
  q2 : Pos
  q3 : Pos
  q4 : Pos
/-- the text of __init__: super().__init__(msg), the stores -/
def heBody (msg : Str) (j : Nat) (p0 p1 p2 p3 p4 p5 : Pos) (fs : List (Str × PosF)) : List Stmt :=
  .Expr (.Call (.Attribute (.Call (.Name "super" p0) [] [] p1) "__init__" p2) [.Constant (.str msg) j p3] [] p4) p5 :: fs.map fun f => .Assign [.Attribute (.Name "self" f.2.q1) f.1 f.2.q2] (.Name f.1 f.2.q3) f.2.q4
/-- what __init__ leaves of a fresh exception at x -/
structure InitEnd (h h' : Heap) (x C dx t1 : Addr) (m : Str → Option Value) : Prop where
  keep : ∀ b o, b ≠ x → h.get? b = some o → h'.get? b = some o
  obj : h'.get? x = some { cls := .ref C, dict := some dx, data := .fields #[.ref t1, .none, .none, .none, .bool false, .none] }
  dbig : h.objs.size ≤ dx
  dne : dx ≠ x
  ns : h'.Ns1 dx m
section
variable {prog : Program} {w : World} {A : Around} {E : Value → Shared → Prop} {R : Result → Shared → Prop} {s : Shared} {K : Frag} {mg : Str → Option Value} {C fI D : Addr} {fs : List Str} {params : Arguments} {body : List Stmt} {scope : Scope}
theorem get_loc {M : Model} {A : Around} {E : Value → Shared → Prop} {s : Shared} {env : Env} {m : Str → Option Value} {x : Str} {pos : Pos} {v : Value} {Q : Value → Shared → Prop} (hn : s.heap.Ns env.locals m) (hv : m x = some v) (hl : env.kindOf x = some .local) (h : Q v s)
    (hk : env.scope.kind = .function) (hd : (x == ("__debug__" : Str)) = false) : wpAny M A (eval (.Name x pos) env) Q E s := wpAny_Name (wpAny_loadName_local hk hl hn hv h) hd
/-- the stores, from the second on: the dict stands -/
theorem stores_ok {env : Env} {m : Str → Option Value} {x dx t1 : Addr} {cd : ClassData} (hcd : clsIn K C = some cd) (hm : refsVE cd.mro = true) (hh : cd.hasDict = true) (sa : findIn K (.ref C) "__setattr__" = some (some (.builtin "object.__setattr__"))) (hk : env.scope.kind = .function) (hself : env.kindOf "self" = some .local) (hx0 : m "self" = some (.ref x)) {Q : Flow → Shared → Prop} :
    ∀ (fs : List (Str × PosF)) (h : Heap) (g : Array GenState) (d : Drawn) (t : Nat) (os : OsState) (m0 : Str → Option Value) (nl : List Str),
      (∀ f ∈ fs, findIn K (.ref C) f.1 = some none ∧ env.kindOf f.1 = some .local ∧ (f.1 == ("__debug__" : Str)) = false ∧ (m f.1).isSome = true) → h.Ns env.locals m → K.In h → env.locals ≠ dx → (∀ o, K.lookup dx = some o → False) →
      h.get? x = some { cls := .ref C, dict := some dx, data := .fields #[.ref t1, .none, .none, .none, .bool false, .none] } → x ≠ dx → h.Ns1 dx m0 → Within m0 nl → nl.length + fs.length ≤ 1000 →
      (∀ h' t', (∀ b o, b ≠ dx → h.get? b = some o → h'.get? b = some o) → h'.Ns1 dx (fun y => if (fs.map (·.1)).contains y then m y else m0 y) → Q .next ⟨h', g, d, t', os⟩) →
      wpAny (model prog w) A (execs (fs.map fun f => .Assign [.Attribute (.Name "self" f.2.q1) f.1 f.2.q2] (.Name f.1 f.2.q3) f.2.q4) env) Q E ⟨h, g, d, t, os⟩ := by
  intro fs
  induction fs with
  | nil =>
    intro h g d t os m0 nl _ hn X _ _ hx _ hns _ _ hq
    exact wpAny_execs_nil (hq h t (fun _ _ _ e => e) (by simpa using hns))
  | cons f fs ih =>
    intro h g d t os m0 nl hf hn X hL hK hx hxd hns hw hz hq
    obtain ⟨f1, f2, f3, f4⟩ := hf f (by simp)
    obtain ⟨v, hv⟩ := Option.isSome_iff_exists.mp f4
    refine wpAny_execs_cons (plainObj_wpAny_Assign_Attribute ?_)
    refine get_loc (s := ⟨h, g, d, t, os⟩) hn hv f2 (get_loc (s := ⟨h, g, d, t, os⟩) hn hx0 hself ?_ hk (by decide)) hk f3
    obtain ⟨oD, esD, epD, hoD, hdD, _⟩ := hns.count hw
    refine set_plain X (ox := { cls := .ref C, dict := some dx, data := .fields #[.ref t1, .none, .none, .none, .bool false, .none] }) (od := some oD) ⟨hx, rfl, rfl, hoD⟩ sa ?_
    refine PySem.OEX.osa_old X hx hns hw (by simp at hz; omega) hcd hm hh f1 fun h' t' k hn' => ?_
    have X' : K.In h' := fun a o e => k a o (fun z => hK o (by rw [← z]; exact e)) (X a o e)
    refine ih h' g d t' os _ (f.1 :: nl) (fun f' hf' => hf f' (by simp [hf'])) ?_ X' hL hK (k _ _ hxd hx) hxd hn' (Within.cons f.1 v hw) (by simp at hz ⊢; omega) ?_
    · exact hn.at fun o e => k _ _ hL e
    · intro h'' t'' k' hn''
      refine hq h'' t'' (fun b o hb e => k' b o hb (k b o hb e)) ?_
      have : (fun y => if (((f :: fs).map (·.1)).contains y) = true then m y else m0 y) = (fun y => if ((fs.map (·.1)).contains y) = true then m y else if y = f.1 then some v else m0 y) := by
        funext y
        by_cases h1 : (fs.map (·.1)).contains y = true
        · have h2 : (((f :: fs).map (·.1)).contains y) = true := by simp at h1 ⊢; exact .inr h1
          rw [if_pos h1, if_pos h2]
        · by_cases h3 : y = f.1
          · subst h3
            have h2 : (((f :: fs).map (·.1)).contains f.1) = true := by simp
            rw [if_pos h2, if_neg h1, if_pos rfl, hv]
          · have h2 : ¬ (((f :: fs).map (·.1)).contains y) = true := by simp at h1 ⊢; exact ⟨h3, h1⟩
            rw [if_neg h2, if_neg h1, if_neg h3]
      rw [this]
      exact hn''
abbrev heScope (nms : List (Str × NameKind)) (mr : List (Str × Const)) : Scope := { kind := .function, names := nms, isGenerator := false, isCoroutine := false, more := mr }
theorem herr_init {cda cc : Addr} {q : Str} {doc pm ct oc oc2 oc3 : Value} {an od od2 od3 : Option Addr} {sl sl2 sl3 : Array (Option Value)} {vf : Array Value} {file : Str} {tf : Tok} {msg : Str} {j : Nat} {p0 p1 p2 p3 p4 p5 : Pos} {fp : List (Str × PosF)} {f : Str × PosF} {cdD : ClassData} {ar : Arg} {nms : List (Str × NameKind)} {mr : List (Str × Const)}
    (T : HErr K prog C fI D fs params (heBody msg j p0 p1 p2 p3 p4 p5 (f :: fp)) (heScope nms mr))
    (l1 : K.lookup fI = some ⟨oc, od, .func (ksFn "__init__" q params (heBody msg j p0 p1 p2 p3 p4 p5 (f :: fp)) (heScope nms mr) .none .none doc pm an (.ref cda) ct cc), sl⟩) (l2 : codeIn K (.ref cda) q = true)
    (l3 : K.lookup cda = some ⟨oc2, od2, .fields vf, sl2⟩) (l4 : vf[2]? = some (.str file tf)) (l5 : ((prog.main.file : Str) == file) = true) (l6 : K.lookup cc = some ⟨oc3, od3, .cell (some (.ref D)), sl3⟩) (l7 : clsIn K D = some cdD)
    {mg mb : Str → Option Value} {x t0 : Addr} {args : Args} {binds : List (Str × Value)} (X : K.In s.heap) (hlim : s.heap.NoLimit) (hglob : s.heap.Ns mainGlobals mg) (hmg : mg "super" = none) (hblt : s.heap.Ns builtinsNs mb) (hmb : mb "super" = some (.type "super"))
    (hx : s.heap.get? x = some (excO C t0)) (hnx : K.lookup x = none) (hroom : A.depth < recursionLimit) (hbind : BindsTo s (ksFn "__init__" q params (heBody msg j p0 p1 p2 p3 p4 p5 (f :: fp)) (heScope nms mr) .none .none doc pm an (.ref cda) ct cc) args binds)
    (har : (params.posonlyargs ++ params.args).head? = some ar) (hself : ar.arg = "self") (hsv : binds.reverse.lookup ("self" : Str) = some (Value.ref x)) (hcell : ∀ x ∈ nms, x.2 ≠ .cell) (hloc : ∀ y ∈ binds, nms.lookup y.1 = some .local)
    (hks : nms.lookup ("super" : Str) = some .globalImplicit) (hkc : nms.lookup ("__class__" : Str) = some .free) (hkself : nms.lookup ("self" : Str) = some .local)
    (hf : ∀ z ∈ f :: fp, findIn K (.ref C) z.1 = some none ∧ nms.lookup z.1 = some .local ∧ (z.1 == ("__debug__" : Str)) = false ∧ (binds.reverse.lookup z.1).isSome = true) (hfl : (f :: fp).length ≤ 100)
    (he : ∀ env : Env, ∃ pl : Sem Bool, eval (.Call (.Attribute (.Call (.Name "super" p0) [] [] p1) "__init__" p2) [.Constant (.str msg) j p3] [] p4) env = (do
      let ov ← attributeBase (.Call (.Name "super" p0) [] [] p1) "__init__" env (eval (.Call (.Name "super" p0) [] [] p1) env)
      standAt p2.atName
      let (f, first) ← holding [ov] (getMethod ov "__init__" pl)
      callWith p4 f first (backTo p4 (starEach [.Constant (.str msg) j p3] env)) []))
    (hq : ∀ h' tk dx t1, InitEnd s.heap h' x C dx t1 (fun y => if ((f :: fp).map (·.1)).contains y then binds.reverse.lookup y else none) → R (.ok (.ret .none)) { s with heap := h', toks := tk }) :
    codeAny (model prog w) A (.call (.ref fI) args) R s := by
  obtain ⟨nm, qn, N, bs, bm, sn, sub, ab, col, dd, k0, k1, k2, k3, k5, hC, hbm⟩ := T.cls
  have hcl : clsIn K C = some { name := nm, bases := bs, mro := .ref C :: bm, ns := N, qualname := qn, hasDict := true, slotNames := sn, subclasses := sub, abstract := ab, collection := col, hasDel := false } := by unfold clsIn; rw [hC] <;> rfl
  refine ks_codeAny_call_defAt (fd := ksFn "__init__" q params (heBody msg j p0 p1 p2 p3 p4 p5 (f :: fp)) (heScope nms mr) .none .none doc pm an (.ref cda) ct cc) (body := heBody msg j p0 p1 p2 p3 p4 p5 (f :: fp)) (binds := binds) hroom (X _ _ l1) rfl hlim (codeRec_of X l2) rfl hbind hcell hloc (fun h₁ hns hk₁ => ?_)
  have X1 : K.In h₁ := X.keeps hk₁
  have hx1 := hk₁ _ _ hx
  have hxL : s.heap.objs.size ≠ x := Nat.ne_of_gt (Heap.lt_size hx)
  obtain ⟨oD, hD1, hD2⟩ : ∃ oD, h₁.get? D = some oD ∧ oD.data = .cls cdD := by
    have l7' := l7
    unfold clsIn at l7'
    split at l7'
    · rename_i c d cd' sl' ho
      cases l7'
      exact ⟨_, X1 _ _ ho, rfl⟩
    · cases l7'
  have IA : InstAt h₁ x (excO C t0) C none := ⟨hx1, rfl, rfl, trivial⟩
  obtain ⟨pl, he'⟩ := he (callEnv (ksFn "__init__" q params (heBody msg j p0 p1 p2 p3 p4 p5 (f :: fp)) (heScope nms mr) .none .none doc pm an (.ref cda) ct cc) s.heap.objs.size fI)
  refine ks_wpAt_execs_cons (ks_wpAt_Expr_any (ks_wpAt_MethodCall (pl := pl) (ks_wpAt_super_base hks hkc (by decide) rfl (X1 _ _ l1) rfl har rfl (X1 _ _ l3) rfl l4 l5 T.top ?_) he'))
  refine ks_loadName_global rfl hks (loadGlobal_builtin (hglob.at fun o e => hk₁ _ _ e) hmg (hblt.at fun o e => hk₁ _ _ e) hmb ⟨rfl, ?_⟩)
  refine wpAny_loadName_free rfl hkc rfl ⟨_, X1 _ _ l6, rfl⟩ ?_
  rw [hself]
  refine wpAny_loadName_local rfl hkself hns hsv ?_
  refine ks_wpAny_isType_cls hD1 hD2 ⟨rfl, ?_⟩
  refine ks_wpAny_call_super hD1 hD2 hx1 rfl (fun c e => by cases e) (looks_mroIn X1 T.mD) (fun h2 e2 k2 => ?_)
  have X2 : K.In h2 := X1.keeps k2
  have hsup : ((Value.ref C :: bm).dropWhile (· != .ref D)).drop 1 = ((Value.ref C :: bm).dropWhile (· != .ref D)).drop 1 := rfl
  have hal : alongIn K "__init__" (((Value.ref C :: bm).dropWhile (· != .ref D)).drop 1) = some (some (.builtin "ValueError.__init__")) := by
    have := T.sup
    unfold ks_superIn at this
    rw [hcl] at this
    exact this
  have I2 : InstAt h2 x (excO C t0) C none := ⟨k2 _ _ hx1, rfl, rfl, trivial⟩
  have hxC : x ≠ C := fun z => by rw [z, hC] at hnx; cases hnx
  refine kxs_getMethod kxs_ValueError e2 (looks_opaque X2 T.op) (l₀ := .ref C :: bm) (fun A Q E s k q => wpAny_bind ((looks_clsIn X2 hcl) A _ E s k (wpAny_pure q))) rfl X2 hal (I2.type.andThen (looks_subIn X2 T.vC)) hxC (by decide) ?_
  have k3 : ∀ b o, h2.get? b = some o → (h2.push (kxs_mw "ValueError.__init__" x)).get? b = some o := fun b o e => Heap.get?_push_of_some _ e
  have X3 := X2.keeps k3
  refine kxs_callWith (i := "ValueError.__init__") (x := x) rfl (evalArgs_plain (spliced_cons (wpAny_Constant_str (k := j) (pos := p3) (spliced_nil ⟨?_, ?_⟩))))
  · show (h2.push (kxs_mw "ValueError.__init__" x)).get? h2.objs.size = _
    exact Heap.get?_push_at rfl rfl
  have hb : (Value.type "X" == Value.type "X") = true := rfl
  refine call_mw (X3 _ _ hC) (k3 _ _ (k2 _ _ hx1)) (Heap.get?_push_at rfl rfl) (by show 1 ≤ sizeLine; rw [sizeLine_eq]; omega) fun h4 t1 k4 e4 => ?_
  have old4 : ∀ b o, b ≠ x → h₁.get? b = some o → h4.get? b = some o := fun b o hb e => k4 b o hb (k3 b o (k2 b o e))
  have X4 : K.In h4 := fun a o e => k4 a o (fun z => by rw [z, hnx] at e; cases e) (X3 a o e)
  have hns4 : h4.Ns s.heap.objs.size (fun x => binds.reverse.lookup x) := hns.at fun o e => old4 _ _ hxL e
  obtain ⟨f1, f2, f3, f4⟩ := hf f (by simp)
  obtain ⟨v, hv⟩ := Option.isSome_iff_exists.mp f4
  refine wpAt_of_wpAny ?_
  show wpAny _ _ (execs (.Assign [.Attribute (.Name "self" f.2.q1) f.1 f.2.q2] (.Name f.1 f.2.q3) f.2.q4 :: fp.map fun f => .Assign [.Attribute (.Name "self" f.2.q1) f.1 f.2.q2] (.Name f.1 f.2.q3) f.2.q4) _) _ _ _
  refine wpAny_execs_cons (plainObj_wpAny_Assign_Attribute ?_)
  refine get_loc hns4 hv f2 (get_loc hns4 hsv hkself ?_ rfl (by decide)) rfl f3
  refine set_plain X4 (ox := excO C t1) (od := none) ⟨e4, rfl, rfl, trivial⟩ T.sa ?_
  refine exc_osa X4 e4 hcl (show refsVE (.ref C :: bm) = true from hbm) rfl f1 fun h5 t5 dx k5 dn dne hx5 hn5 => ?_
  have z4 : s.heap.objs.size < h4.objs.size := hns4.lt
  have dn : h4.objs.size ≤ dx := dn
  have X5 : K.In h5 := fun a o e => k5 a o (fun z => by rw [z, hnx] at e; cases e) (X4 a o e)
  have hKd : ∀ o, K.lookup dx = some o → False := fun o e => Nat.lt_irrefl _ (Nat.lt_of_lt_of_le (Heap.lt_size (X4 _ _ e)) dn)
  refine stores_ok (env := callEnv (ksFn "__init__" q params (heBody msg j p0 p1 p2 p3 p4 p5 (f :: fp)) (heScope nms mr) .none .none doc pm an (.ref cda) ct cc) s.heap.objs.size fI) (C := C) (x := x) (dx := dx) (t1 := t1) (m := fun x => binds.reverse.lookup x) hcl (show refsVE (.ref C :: bm) = true from hbm) rfl T.sa rfl hkself hsv fp h5 _ _ t5 _ _ [f.1] (fun z hz => hf z (by simp [hz])) (hns4.at fun o e => k5 _ _ hxL e) X5 (by show s.heap.objs.size ≠ dx; omega) hKd hx5 (Ne.symm dne) hn5 ?_ (by simp at hfl ⊢; omega) ?_
  · intro y hy
    by_cases e : y = f.1
    · rw [e]; simp
    · exact absurd (if_neg e) hy
  · intro h6 t6 k6 hn6
    refine hq h6 t6 dx t1 ⟨fun b o hb e => ?_, k6 _ _ (Ne.symm dne) hx5, by omega, dne, ?_⟩
    · have ne : b ≠ dx := Nat.ne_of_lt (Nat.lt_of_lt_of_le (Nat.lt_trans (Heap.lt_size e) z4) dn)
      exact k6 b o ne (k5 b o hb (old4 b o hb (hk₁ b o e)))
    · have e : (fun y => if (fp.map (·.1)).contains y = true then binds.reverse.lookup y else if y = f.1 then some v else none) = (fun y => if ((f :: fp).map (·.1)).contains y = true then binds.reverse.lookup y else none) := by
        funext y
        by_cases h1 : (fp.map (·.1)).contains y = true
        · have h2 : ((f :: fp).map (·.1)).contains y = true := by simp at h1 ⊢; exact .inr h1
          rw [if_pos h1, if_pos h2]
        · by_cases h3 : y = f.1
          · have h2 : ((f :: fp).map (·.1)).contains y = true := by rw [h3]; simp
            rw [if_neg h1, if_pos h2, if_pos h3, h3, hv]
          · have h2 : ¬ ((f :: fp).map (·.1)).contains y = true := by simp at h1 ⊢; exact ⟨h3, h1⟩
            rw [if_neg h1, if_neg h2, if_neg h3]
      rw [← e]
      exact hn6
end
end PyX
end

section
set_option Elab.async false
set_option linter.all false
set_option maxRecDepth 100000
set_option maxHeartbeats 2000000
/-! Own exceptions: made, raised, caught, looked at. -/
namespace PyX
open PySem PySem.W PySem.Calls PyProof.Rows PySem.HandSPX
/-- a made exception: at e, its dict at d -/
structure OwnMade (h h' : Heap) (e C d : Addr) (m : Str → Option Value) : Prop where
  keep : ∀ b o, h.get? b = some o → h'.get? b = some o
  new : h.objs.size ≤ e
  obj : ∃ oe vs, h'.get? e = some oe ∧ oe.cls = .ref C ∧ oe.dict = some d ∧ oe.data = .fields vs ∧ vs[1]? = some .none
  dbig : h.objs.size ≤ d
  dne : d ≠ e
  ns : h'.Ns1 d m
section
variable {prog : Program} {w : World} {A : Around} {R : Result → Shared → Prop} {s : Shared} {K : Frag} {C fI D : Addr} {fs : List Str} {params : Arguments} {body : List Stmt} {scope : Scope}
theorem herr_made (T : HErr K prog C fI D fs params body scope) {us : List Value} {m : Str → Option Value} (X : K.In s.heap) (hlim : s.heap.NoLimit) (hus : us.length ≤ 100) (hroom : A.depth + 1 < recursionLimit)
    (init : ∀ (A : Around) (R : Result → Shared → Prop) (s' : Shared) (x t0 : Addr), (∀ b o, s.heap.get? b = some o → s'.heap.get? b = some o) → s'.heap.get? x = some (excO C t0) → K.lookup x = none → A.depth < recursionLimit →
      (∀ h' tk dx t1, InitEnd s'.heap h' x C dx t1 m → R (.ok (.ret .none)) { s' with heap := h', toks := tk }) → codeAny (model prog w) A (.call (.ref fI) ⟨.ref x :: us, []⟩) R s')
    (hq : ∀ h' tk e d, OwnMade s.heap h' e C d m → R (.ok (.ret (.ref e))) { s with heap := h', toks := tk }) :
    codeAny (model prog w) A (.call (.ref C) ⟨us, []⟩) R s := by
  obtain ⟨nm, q, N, bs, bm, sn, sub, ab, col, dd, k0, k1, k2, k3, k5, hC, hbm⟩ := T.cls
  obtain ⟨hp, g, dr, tk, os⟩ := s
  have k : ∀ b o, hp.get? b = some o → ((hp.push (kdv_tup us)).push (excO C hp.objs.size)).get? b = some o := fun b o e => Heap.get?_push_of_some _ (Heap.get?_push_of_some _ e)
  have hget : ((hp.push (kdv_tup us)).push (excO C hp.objs.size)).get? (hp.objs.size + 1) = some (excO C hp.objs.size) := by heap_get
  have hnx : K.lookup (hp.objs.size + 1) = none := by
    cases e : K.lookup (hp.objs.size + 1) with
    | none => rfl
    | some o => exact absurd (Nat.lt_of_succ_lt (Heap.lt_size (show hp.get? (hp.objs.size + 1) = some o from X _ _ e))) (Nat.lt_irrefl _)
  have hsz : us.length ≤ sizeLine := by rw [sizeLine_eq]; omega
  refine call_own F.excBase_ValueError (fun X => refsVE_contains X bm hbm) (X _ _ hC) (looks_findIn X T.iC) (fun self => bind_fn X self T.tI) hsz ?_
  refine init _ _ ⟨(hp.push (kdv_tup us)).push (excO C hp.objs.size), g, dr, tk, os⟩ (hp.objs.size + 1) hp.objs.size k hget hnx (by show A.depth + 1 < recursionLimit; exact hroom) fun h' tk' dx t1 ⟨k', hx, dn, dne, hns⟩ => ?_
  have old : ∀ b o, hp.get? b = some o → h'.get? b = some o := fun b o e => k' b o (Nat.ne_of_lt (Nat.lt_succ_of_lt (Heap.lt_size e))) (k b o e)
  have z : hp.objs.size + 1 + 1 ≤ dx := by
    first
      | (simpa only [Heap.size_push] using dn)
      | exact dn
  exact ⟨rfl, hq h' tk' (hp.objs.size + 1) dx ⟨old, Nat.le_succ _, ⟨_, _, hx, rfl, rfl, rfl, rfl⟩, Nat.le_trans (Nat.le_trans (Nat.le_succ _) (Nat.le_succ _)) z, dne, hns⟩⟩
end
/-- the parameters of __init__ -/
def heArgs (p0 : Pos) (fs : List (Str × Pos)) : Arguments := { posonlyargs := [], args := { arg := "self", annotation := none, pos := p0 } :: fs.map fun f => { arg := f.1, annotation := none, pos := f.2 }, vararg := none, kwonlyargs := [], kw_defaults := [], kwarg := none, defaults := [] }
/-- the class x of the module: an exception of its own, with these fields -/
structure ErrC (P : Program) (w : World) (K : Frag) (mg : Str → Option Value) (x : Str) (fs : List Str) : Prop where
  ex : ∃ C : Addr, mg x = some (.ref C) ∧ keepIn K (.ref C) = true ∧ subIn K (.ref C) (.type "BaseException") = some true ∧ typeIn K (.ref C) = some (.type "type") ∧
    ∀ (A : Around) (R : Result → Shared → Prop) (s : Shared) (mb : Str → Option Value) (us : List Value), us.length = fs.length → K.In s.heap → s.heap.NoLimit → s.heap.Ns mainGlobals mg → s.heap.Ns builtinsNs mb → mb "super" = some (.type "super") → A.depth + 1 < recursionLimit →
      (∀ h' tk e d m, (∀ vs, L2.Vals vs us → ∀ f, L2.RelO ((fs.zip vs).lookup f) (m f)) → OwnMade s.heap h' e C d m → R (.ok (.ret (.ref e))) { s with heap := h', toks := tk }) → codeAny (model P w) A (.call (.ref C) ⟨us, []⟩) R s
section
variable {P : Program} {w : World} {K : Frag} {mg : Str → Option Value} {C fI D : Addr} {msg : Str} {j : Nat} {p0 p1 p2 p3 p4 p5 : Pos} {ps : Arguments} {nms : List (Str × NameKind)} {mr : List (Str × Const)} {x : Str}
/-- what the text of __init__ says by itself -/
structure HeTxt (fs : List Str) (msg : Str) (j : Nat) (p0 p1 p2 p3 p4 : Pos) (ps : Arguments) (nms : List (Str × NameKind)) : Prop where
  ar : ∃ ar, (ps.posonlyargs ++ ps.args).head? = some ar ∧ ar.arg = "self"
  cell : ∀ x ∈ nms, x.2 ≠ .cell
  sup : nms.lookup ("super" : Str) = some .globalImplicit
  cls : nms.lookup ("__class__" : Str) = some .free
  loc : ∀ f ∈ ("self" : Str) :: fs, nms.lookup f = some .local
  dbg : ∀ f ∈ fs, (f == ("__debug__" : Str)) = false
  nd : (("self" : Str) :: fs).Nodup
  len : fs.length ≤ 99
  ev : ∀ env : PySem.Env, ∃ pl : Sem Bool, eval (.Call (.Attribute (.Call (.Name "super" p0) [] [] p1) "__init__" p2) [.Constant (.str msg) j p3] [] p4) env = (do
      let ov ← attributeBase (.Call (.Name "super" p0) [] [] p1) "__init__" env (eval (.Call (.Name "super" p0) [] [] p1) env)
      standAt p2.atName
      let (f, first) ← holding [ov] (getMethod ov "__init__" pl)
      callWith p4 f first (backTo p4 (starEach [.Constant (.str msg) j p3] env)) [])
theorem lookup_app (k : Str) : ∀ (l r : List (Str × Value)), k ∉ l.map (·.1) → (l ++ r).lookup k = r.lookup k
  | [], _, _ => rfl
  | (a, v) :: l, r, h => by
    simp at h
    have e : (k == a) = false := by simpa using h.1
    simp only [List.cons_append, List.lookup, e]
    exact lookup_app k l r (by simpa using h.2)
theorem lookup_app' (k : Str) (v : Value) : ∀ (l r : List (Str × Value)), l.lookup k = some v → (l ++ r).lookup k = some v
  | [], _, h => by cases h
  | (a, u) :: l, r, h => by
    simp only [List.cons_append, List.lookup] at h ⊢
    cases e : (k == a) with
    | true => rw [e] at h; exact h
    | false => rw [e] at h; exact lookup_app' k v l r h
theorem lookup_rev (k : Str) : ∀ (l : List (Str × Value)), (l.map (·.1)).Nodup → l.reverse.lookup k = l.lookup k
  | [], _ => rfl
  | (a, v) :: l, h => by
    simp only [List.map_cons, List.nodup_cons] at h
    rw [List.reverse_cons]
    by_cases e : k = a
    · subst e
      rw [lookup_app _ _ _ (by simpa using h.1)]
      simp [List.lookup]
    · have e' : (k == a) = false := by simpa using e
      simp only [List.lookup, e']
      cases q : l.lookup k with
      | some u => exact lookup_app' k u _ _ ((lookup_rev k l h.2).trans q)
      | none =>
        have z := (lookup_rev k l h.2).trans q
        have : ∀ (m : List (Str × Value)), m.lookup k = none → (m ++ [(a, v)]).lookup k = none := by
          intro m
          induction m with
          | nil => intro _; simp [List.lookup, e']
          | cons p m ih =>
            obtain ⟨b, u⟩ := p
            intro hm
            simp only [List.cons_append, List.lookup] at hm ⊢
            cases e2 : (k == b) with
            | true => rw [e2] at hm; cases hm
            | false => rw [e2] at hm; exact ih hm
        exact this _ z
theorem zip_keys : ∀ (fs : List Str) (us : List Value), us.length = fs.length → (fs.zip us).map (·.1) = fs
  | [], [], _ => rfl
  | f :: fs, u :: us, h => by simp [zip_keys fs us (by simpa using h)]
theorem zip_some (k : Str) : ∀ (fs : List Str) (us : List Value), us.length = fs.length → k ∈ fs → ((fs.zip us).lookup k).isSome = true
  | f :: fs, u :: us, h, hk => by
    simp only [List.zip_cons_cons, List.lookup]
    cases e : (k == f) with
    | true => rfl
    | false =>
      have : k ≠ f := by simpa using e
      rcases List.mem_cons.mp hk with z | z
      · exact absurd z this
      · exact zip_some k fs us (by simpa using h) z
theorem zip_rel (k : Str) : ∀ (fs : List Str) (vs : List L2.V) (us : List Value), us.length = fs.length → L2.Vals vs us → L2.RelO ((fs.zip vs).lookup k) ((fs.zip us).lookup k)
  | [], _, _, _, _ => trivial
  | f :: fs, _, u :: us, h, .cons r t => by
    simp only [List.zip_cons_cons, List.lookup]
    cases e : (k == f) with
    | true => exact r
    | false => exact zip_rel k fs _ us (by simpa using h) t
theorem zip_none (k : Str) : ∀ (fs : List Str) (us : List Value), k ∉ fs → (fs.zip us).lookup k = none
  | [], _, _ => rfl
  | f :: fs, [], _ => rfl
  | f :: fs, u :: us, h => by
    simp at h
    have e : (k == f) = false := by simpa using h.1
    simp only [List.zip_cons_cons, List.lookup, e]
    exact zip_none k fs us h.2
theorem errC_of {f : Str × PosF} {fp : List (Str × PosF)} (T : HErr K P C fI D ((f :: fp).map (·.1)) ps (heBody msg j p0 p1 p2 p3 p4 p5 (f :: fp)) (heScope nms mr)) (X : HeTxt ((f :: fp).map (·.1)) msg j p0 p1 p2 p3 p4 ps nms) (hx : mg x = some (.ref C)) (hsup : mg "super" = none)
    (hb : ∀ (s : Shared) (q : Str) (doc pm ct : Value) (an : Option Addr) (cda cc : Addr) (v : Value) (us : List Value), us.length = ((f :: fp).map (·.1)).length →
      BindsTo s (ksFn "__init__" q ps (heBody msg j p0 p1 p2 p3 p4 p5 (f :: fp)) (heScope nms mr) .none .none doc pm an (.ref cda) ct cc) ⟨v :: us, []⟩ (((Str.ofString "self"), v) :: ((f :: fp).map (·.1)).zip us)) : ErrC P w K mg x ((f :: fp).map (·.1)) := by
  refine ⟨C, hx, T.kC, T.exC, T.tyC, fun A R s mb us hus XI hlim hg hbn hmb hroom hq => ?_⟩
  obtain ⟨oc, oc2, oc3, od, od2, od3, doc, pm, an, cda, cc, ct, sl, sl2, sl3, q, vf, file, tf, l1, l2, l3, l4, l5, l6⟩ := T.fn
  obtain ⟨cdD, l7⟩ := T.cD
  obtain ⟨ar, a1, a2⟩ := X.ar
  have nd2 := List.nodup_cons.mp X.nd
  refine herr_made T (m := fun y => if ((f :: fp).map (·.1)).contains y then (((f :: fp).map (·.1)).zip us).lookup y else none) XI hlim (by rw [hus]; have := X.len; omega) hroom (fun A R s' x t0 k hx0 hnx hr hq' => ?_) fun h' tk e d M => ?_
  · have keys : ((((Str.ofString "self"), Value.ref x) :: ((f :: fp).map (·.1)).zip us).map (·.1)) = ("self" : Str) :: (f :: fp).map (·.1) := by rw [List.map_cons, zip_keys _ _ hus]
    have rv : ∀ y, (((Str.ofString "self"), Value.ref x) :: ((f :: fp).map (·.1)).zip us).reverse.lookup y = (((Str.ofString "self"), Value.ref x) :: ((f :: fp).map (·.1)).zip us).lookup y := fun y => lookup_rev y _ (by rw [keys]; exact X.nd)
    have ns : ∀ y, y ∈ (f :: fp).map (·.1) → (((Str.ofString "self"), Value.ref x) :: ((f :: fp).map (·.1)).zip us).lookup y = (((f :: fp).map (·.1)).zip us).lookup y := fun y hy => by
      have : (y == ("self" : Str)) = false := by
        have : y ≠ "self" := fun z => nd2.1 (z ▸ hy)
        simpa using this
      simp only [List.lookup, this]
    refine herr_init T l1 l2 l3 l4 l5 l6 l7 (XI.keeps k) (hlim.keeps k) (hg.at fun o e => k _ _ e) hsup (hbn.at fun o e => k _ _ e) hmb hx0 hnx hr (hb s' q doc pm ct an cda cc _ us hus) a1 a2 ?_ X.cell ?_ X.sup X.cls (X.loc _ List.mem_cons_self) ?_ (by have := X.len; simp at this ⊢; omega) X.ev fun h' tk dx t1 E => ?_
    · rw [rv]
      simp [List.lookup]
    · intro y hy
      have : y.1 ∈ ((((Str.ofString "self"), Value.ref x) :: ((f :: fp).map (·.1)).zip us).map (·.1)) := List.mem_map.mpr ⟨y, hy, rfl⟩
      rw [keys] at this
      exact X.loc _ this
    · intro z hz
      have hz' : z.1 ∈ (f :: fp).map (·.1) := List.mem_map.mpr ⟨z, hz, rfl⟩
      refine ⟨T.no _ hz', X.loc _ (List.mem_cons_of_mem _ hz'), X.dbg _ hz', ?_⟩
      rw [rv, ns _ hz']
      exact zip_some _ _ _ hus hz'
    · refine hq' h' tk dx t1 ⟨E.keep, E.obj, E.dbig, E.dne, ?_⟩
      have e : (fun y => if ((f :: fp).map (·.1)).contains y = true then (((Str.ofString "self"), Value.ref x) :: ((f :: fp).map (·.1)).zip us).reverse.lookup y else none) = fun y => if ((f :: fp).map (·.1)).contains y = true then (((f :: fp).map (·.1)).zip us).lookup y else none := by
        funext y
        by_cases h1 : ((f :: fp).map (·.1)).contains y = true
        · rw [if_pos h1, if_pos h1, rv, ns y (by simpa using h1)]
        · rw [if_neg h1, if_neg h1]
      rw [← e]
      exact E.ns
  · refine hq h' tk e d _ (fun vs hv y => ?_) M
    by_cases h1 : ((f :: fp).map (·.1)).contains y = true
    · rw [if_pos h1]
      exact zip_rel y _ vs us hus hv
    · rw [if_neg h1]
      have z := zip_rel y _ vs us hus hv
      rw [zip_none y _ us (by simpa using h1)] at z
      exact z
end
end PyX
end

section
set_option Elab.async false
set_option linter.all false
set_option maxRecDepth 100000
set_option maxHeartbeats 2000000
set_option autoImplicit false
/-! Soundness: raise, try, the exception in hand. -/
namespace Py
open PySem L2
theorem boot_super : bootBuiltins "super" = some (.type "super") := by decide +kernel
section
variable {X : Cx} {W : WX}
/-- an own exception, made -/
def tErr (K : PySem.W.Frag) (C : Addr) (fs : List Str) (t : TA) : L2.St → Hp → XK → Prop := fun σ H Q => t σ H fun vs H1 => vs.length = fs.length ∧ ∀ d, H1 d = none → Q (.ref C) (some d) (upd H1 d (.xd (fs.zip vs)))
theorem pmk_err {x : Str} {fs : List Str} {e : Expr} {es : List Expr} {t : TA} {p pos : Pos} {k : Nat} (E : PyX.ErrC X.prog X.w X.K X.mg x fs) (hr : Room k X.A) (ha : PA X (e :: es) t) (hg : Gl X x := by rfl) (hdb : (x == ("__debug__" : Str)) = false := by decide)
    (he : starEach (e :: es) X.env = (false, eval e X.env) :: starEach es X.env := by rfl) (hpl : (backTo pos (starEach es X.env)).any (·.1) = false := by rfl) :
    ∃ C, X.mg x = some (.ref C) ∧ PMk X (.Call (.Name x p) (e :: es) [] pos) (tErr X.K C fs t) := by
  obtain ⟨C, hm, kC, exC, tyC, made⟩ := E.ex
  refine ⟨C, hm, ?_⟩
  intro pins s σ H Q I h
  refine wpAny_Call_Name_kw (ld_glob I hg hm ?_ hdb)
  refine PySem.W.callWith_K (h₀ := X.base) I.ok.mod.kin kC (thn (ha.run pos pins s σ H _ I h) fun us s1 hh => ?_) he hpl
  obtain ⟨vs, H1, I1, r1, hl, q1⟩ := hh
  refine ⟨I1.kIn, ?_⟩
  show wpAny _ _ (call (.ref C) us) _ _ _
  have hlim := I1.nolimit
  obtain ⟨mb, hb1, hb2⟩ := I1.mod.blt
  have hus : us.length = fs.length := by rw [← r1.length]; exact hl
  have hglob := I1.mod.glob.keeps I1.bk
  have hblt := hb1.keeps I1.bk
  have hsup : mb "super" = some (.type "super") := (hb2 "super" (by decide)).trans boot_super
  obtain ⟨hp, g, dr, tk, os⟩ := s1
  refine wpAny_call (made _ _ ⟨hp, g, dr, tk, os⟩ mb us hus I1.kIn hlim hglob hblt hsup (by have := hr.dp; omega) fun h' tk' e d m hrel M => ?_)
  show MkP X pins σ Q (.ref e) ⟨h', g, dr, tk', os⟩
  obtain ⟨oe, fv, hoe, hc, hd, hdat, h1⟩ := M.obj
  have hns := M.ns
  obtain ⟨G', g1, g2⟩ := restrict h' fun b => decide (b ≠ e)
  have gk : ∀ b, b ≠ e → G'.get? b = h'.get? b := fun b hb => g1 b (decide_eq_true hb)
  have ge : G'.get? e = none := g2 e (by simp)
  have old : ∀ b o, hp.get? b = some o → G'.get? b = some o := fun b o q => (gk b (Nat.ne_of_lt (Nat.lt_of_lt_of_le (Heap.lt_size q) M.new))).trans (M.keep b o q)
  have ob : ObjOk X.prog X.w (upd H1 d (.xd (fs.zip vs))) G' d (.xd (fs.zip vs)) := ⟨_, hns.at (fun o q => (gk d M.dne).trans q), fun f => hrel vs r1 f⟩
  have J : Inv X pins σ (upd H1 d (.xd (fs.zip vs))) ⟨G', g, dr, tk', os⟩ := I1.laid (t' := tk') old M.dbig ob
  refine ⟨e, oe, fv, ⟨G', g, dr, tk', os⟩, _, .ref C, some d, rfl, J, fun b o q => ?_, ge, hoe, ⟨hc, hd⟩, hdat, h1, ?_, rfl, I1.bare, raises_own exC tyC, q1 d (I1.hok.fresh M.dbig)⟩
  · by_cases hb : b = e
    · have q' : G'.get? b = some o := q
      rw [hb, ge] at q'; cases q'
    · exact (gk b hb).symm.trans q
  · rw [upd_ne (Ne.symm M.dne)]
    exact I1.hok.fresh M.new
theorem s_raise {x : String} {fs : List String} {e : Expr} {es : List Expr} {as : A} {p pos pos2 : Pos} {k : Nat} (E : PyX.ErrC X.prog X.w X.K X.mg (Str.ofString x) (fs.map Str.ofString)) (hc : X.calm = true) (hr : Room k X.A) (tk : Takes X W) (ha : AA X W (e :: es) as) (hg : Gl X (Str.ofString x) := by rfl) (hdb : ((Str.ofString x) == ("__debug__" : Str)) = false := by decide)
    (he : starEach (e :: es) X.env = (false, eval e X.env) :: starEach es X.env := by rfl) (hpl : (backTo pos (starEach es X.env)).any (·.1) = false := by rfl) :
    SS X W (.Raise (some (.Call (.Name (Str.ofString x) p) (e :: es) [] pos)) none pos2) (sRaise x fs as) := by
  obtain ⟨C, hm, pm⟩ := pmk_err E hr ha hg hdb he hpl (p := p) (pos := pos)
  refine (ps_raise hc tk pm).mono fun En σ H ⟨ρ, g, ι, er, s, p⟩ => ?_
  refine ⟨ρ, g, ι, er, s, (PostS.onR er p).imp fun ds g1 H1 ι1 _ x1 s1 p1 vs rs => ?_⟩
  by_cases hl : ds.length = fs.length
  · rw [if_pos hl] at p1
    refine ⟨by rw [List.length_map, ← rs.len]; exact hl, fun d hd => ?_⟩
    have hfs : (fs.zip ds).map (fun f => Str.ofString f.1) = fs.map Str.ofString := by
      have : (fs.zip ds).map (·.1) = fs := List.map_fst_zip (by omega)
      exact (List.map_map (g := Str.ofString) (f := fun f : String × D => f.1) (l := fs.zip ds)).symm.trans (congrArg (List.map Str.ofString) this)
    have hds : (fs.zip ds).map (·.2) = ds := List.map_snd_zip (by omega)
    have sx := s1.newX (fs := fs.zip ds) (vs := vs) hd (by rw [hds]; exact rs)
    rw [hfs] at sx
    refine p1 (.ref C) (some d) σ _ (ι1 ++ [d]) ((Ext.new hd).trans Ext.snoc) sx ((er.ext x1).ext ((Ext.new hd).trans Ext.snoc)) ⟨hm, (fun z => nomatch z), fun r hr => ?_⟩
    cases hr
    exact ⟨d, rfl, by rw [← s1.len]; simp⟩
  · rw [if_neg hl] at p1
    exact p1.elim
/-! ### the classes' table -/
/-- which classes are under the class at D, by isinstance; all instances may be asked -/
def IsT (K : PySem.W.Frag) (mg : Str → Option Value) (cl : String → Option Bool) (u : Value) : Prop := ∀ c b, cl c = some b → ∃ C, mg (Str.ofString c) = some (.ref C) ∧ PySem.W.kitOne K (.ref C) u = some b ∧ ExcC K C
/-- which classes an except clause over c takes -/
def ExT (K : PySem.W.Frag) (mg : Str → Option Value) (cl : String → Option Bool) (u : Value) : Prop := ∀ c b, cl c = some b → ∃ C, mg (Str.ofString c) = some (.ref C) ∧ PySem.W.exmOne K (.ref C) u = some b
/-- these classes' instances may be asked for f -/
def FlT (K : PySem.W.Frag) (mg : Str → Option Value) (cs : List String) (f : Str) : Prop := ∀ c ∈ cs, ∃ C, mg (Str.ofString c) = some (.ref C) ∧ XfC K C ∧ PySem.W.findIn K (.ref C) f = some none
/-! ### try -/
/-- what is known in a suite: e is the exception at a (class cls, dict d) -/
structure Held (mg : Str → Option Value) (e : Exc) (cls : Value) (d : Option Addr) : Prop where
  cls : mg (Str.ofString e.cls) = some cls
  dict : ∀ r, e.at_ = some r → d.isSome = true
  bare : e.at_ = none → d = none
theorem clean_nx {K mg} {W : WX} {En : Ends} {H : Hp} {ι : List Addr} {i : Nat} {q : Option Nat} {r : SR} (h : PostS K mg W En H ι (r.clean i q)) :
    PostS K mg W0 { nx := fun σ' H' => En.nx (σ'.set i none) H', rt := En.rt, bk := fun σ' H' => En.bk (σ'.set i none) H', ct := fun σ' H' => En.ct (σ'.set i none) H' } H ι r := by
  have wip : ∀ {H' ι' ρ σ'}, ER K H' ι' ρ σ' → ER K H' ι' (ρ.set i none) (σ'.set i none) := fun {H' ι' ρ σ'} er => by
    refine ⟨by simp [er.len], fun j d hj => ?_⟩
    by_cases e : j = i
    · subst e
      have := (List.getElem?_eq_some_iff.mp hj).1
      simp at this
      rw [List.getElem?_set_self this] at hj
      cases hj
    · rw [List.getElem?_set_ne (Ne.symm e)] at hj
      obtain ⟨v, h1, h2⟩ := er.at_ j d hj
      exact ⟨v, by rw [List.getElem?_set_ne (Ne.symm e)]; exact h1, h2⟩
  cases r with
  | next ρ g => exact fun σ' H' ι' x s er => h _ H' ι' x (s.unpin q) (wip er)
  | brk ρ g => exact fun σ' H' ι' x s er => h _ H' ι' x (s.unpin q) (wip er)
  | cont ρ g => exact fun σ' H' ι' x s er => h _ H' ι' x (s.unpin q) (wip er)
  | ret d g => exact fun v H' ι' x s r => h v H' ι' x (s.unpin q) r
  | exc e ρ g => exact h.elim
  | bad => exact h
theorem s_tryAs {x n : String} {i : Nat} {body stm : List Stmt} {b₀ : Stmt} {np pos pos' : Pos} {mb : S} {su : Exc → Nat → Nat → S} {cl : String → Option Bool} {u : Value} (hs : X.stack = X.env :: X.outer) (hf : X.env.frame = some X.env.locals) (hN : X.N.Nodup) (tk : Takes X W)
    (hu : X.mg (Str.ofString x) = some u) (ht : ExT X.K X.mg cl u)
    (hb : ∀ (W' : WX) (pn : List (Addr × Obj)) (xe : Value → Shared → Prop), Takes (X.tr pn xe) W' → PassesOwn (model X.prog X.w) X.A X.env xe → SSs (X.tr pn xe) W' body mb)
    (hsu : ∀ (e : Exc) (a : Addr) (oe : Obj) (cls : Value) (d : Option Addr) (pn : List (Addr × Obj)), Zc cls d oe → (∃ vs, oe.data = .fields vs) → Held X.mg e cls d → SSs (X.suite a ((a, oe) :: pn)) W0 (b₀ :: stm) (su e a (d.getD 0)))
    (hi : X.N[i]? = some (Str.ofString n) := by rfl) (hln : X.env.kindOf (Str.ofString n) = some .local := by rfl) (hg : Gl X (Str.ofString x) := by rfl) (hdb : ((Str.ofString x) == ("__debug__" : Str)) = false := by decide) :
    SS X W (.Try body [.ExceptHandler (some (.Name (Str.ofString x) np)) (some (Str.ofString n)) (b₀ :: stm) pos'] [] [] pos) (sTryAs mb cl i su) := by
  refine (ps_try_as (i := i) (tb := fun W' => tS X.K X.mg W' mb) (Wout := W)
    (ts := fun a cls d => fun En σ H => ∃ e, Held X.mg e cls d ∧ tS X.K X.mg W0 (su e a (d.getD 0)) En σ H) hs hf hN hi hln ⟨hg, hdb, .inl hu⟩ tk (fun W' pn xe tk' po => hb W' pn xe tk' po) (fun a oe cls d pn hz hfl => ?_)).mono fun En σ H ⟨ρ, g, ι, er, s, p⟩ => ?_
  · exact ⟨fun pins s σ H En I ⟨e, he, q⟩ => (hsu e a oe cls d pn hz hfl he).run pins s σ H En I q⟩
  · refine ⟨ρ, g, ι, er, s, ?_⟩
    have hm : mb ρ g = mb ρ g := rfl
    unfold sTryAs at p
    cases hb' : mb ρ g with
    | next ρ1 g1 => rw [hb'] at p; exact p
    | brk ρ1 g1 => rw [hb'] at p; exact p
    | cont ρ1 g1 => rw [hb'] at p; exact p
    | ret d g1 => rw [hb'] at p; exact p
    | bad => rw [hb'] at p; exact p.elim
    | exc e ρ1 g1 =>
      rw [hb'] at p
      dsimp only at p
      cases hc : cl e.cls with
      | none => rw [hc] at p; exact p.elim
      | some b =>
        rw [hc] at p
        obtain ⟨C, hC, hex⟩ := ht e.cls b hc
        cases b with
        | false =>
          dsimp only at p
          intro cls dx σ' H' ι' x' s' er' hx
          have e1 : cls = .ref C := Option.some.inj (hx.1.symm.trans hC)
          refine ⟨false, by rw [e1]; exact hex, fun z => Bool.noConfusion z, fun _ => p cls dx σ' H' ι' x' s' er' hx⟩
        | true =>
          dsimp only at p
          intro cls dx σ' H' ι' x' s' er' hx
          have e1 : cls = .ref C := Option.some.inj (hx.1.symm.trans hC)
          refine ⟨true, by rw [e1]; exact hex, fun _ a na => ⟨e, ⟨hx.1, fun r hr => ?_, hx.2.1⟩, ?_⟩, fun z => Bool.noConfusion z⟩
          · obtain ⟨a', h1, _⟩ := hx.2.2 r hr
            rw [h1]; rfl
          · by_cases hw : ∃ r, ∀ a b, (su e a b (ρ1.set i (some (.adr a))) (pinX e.at_ b g1)).clean i e.at_ = r
            · obtain ⟨r, hr⟩ := hw
              rw [same_for_eq hr, ← hr a (dx.getD 0)] at p
              refine ⟨ρ1.set i (some (.adr a)), pinX e.at_ (dx.getD 0) g1, ι', er'.set (.adr a) i, s'.pin fun q hq => ?_, ?_⟩
              · obtain ⟨a', h1, h2⟩ := hx.2.2 q hq
                rw [h1, h2]; rfl
              · have := clean_nx (i := i) (q := e.at_) p
                cases hz : su e a (dx.getD 0) (ρ1.set i (some (.adr a))) (pinX e.at_ (dx.getD 0) g1) with
                | next ρ g => rw [hz] at this; exact fun σ2 H2 ι2 x2 s2 er2 => this σ2 H2 ι2 (x'.trans x2) s2 er2
                | brk ρ g => rw [hz] at this; exact fun σ2 H2 ι2 x2 s2 er2 => this σ2 H2 ι2 (x'.trans x2) s2 er2
                | cont ρ g => rw [hz] at this; exact fun σ2 H2 ι2 x2 s2 er2 => this σ2 H2 ι2 (x'.trans x2) s2 er2
                | ret d g => rw [hz] at this; exact fun v H2 ι2 x2 s2 r2 => this v H2 ι2 (x'.trans x2) s2 r2
                | exc e ρ g => rw [hz] at this; exact fun cls dx σ2 H2 ι2 x2 s2 er2 z => this cls dx σ2 H2 ι2 (x'.trans x2) s2 er2 z
                | bad => rw [hz] at this; exact this
            · unfold same_for at p
              rw [dif_neg hw] at p
              exact p.elim
/-! ### the exception in hand, in a suite -/
variable {a : Addr} {oe : Obj} {cls : Value} {d : Option Addr} {pn : List (Addr × Obj)} {e : Exc}
theorem slot_adr {K H ι} {ρ : Env} {σ : St} {i : Nat} (er : ER K H ι ρ σ) (h : ρ[i]? = some (some (.adr a))) : σ[i]? = some (some (.ref a)) := by
  obtain ⟨v, h1, h2⟩ := er.at_ i _ h
  cases h2
  exact h1
theorem call_isH {C : Addr} {u : Value} {b : Bool} (hC : ExcC X.K C) (hz : Zc (.ref C) d oe) (hf : ∃ vs, oe.data = .fields vs) (hk : PySem.W.kitOne X.K (.ref C) u = some b) :
    CallR (X.suite a ((a, oe) :: pn)) (.builtin "isinstance") fun xs H Q => ∃ c, xs = [.ref a, c] ∧ (∀ v, RelV c v → v = u) ∧ (∀ dd, d = some dd → ∃ fs, H dd = some (.xd fs)) ∧ Q (.bl b) H := by
  intro pins s σ H xs us Q I r h
  obtain ⟨c, rfl, hcv, hd, q⟩ := h
  cases r with
  | cons rx rr =>
    cases rr with
    | cons rt rr =>
      cases rr
      cases rx
      have ec := hcv _ rt
      subst ec
      obtain ⟨hget, _⟩ := I.pin (a, oe) (List.mem_append.mpr (.inl List.mem_cons_self))
      obtain ⟨vs, hv⟩ := hf
      obtain ⟨od, J⟩ : ∃ od, PySem.W.InstAt s.heap a oe C od := by
        obtain ⟨oc, odd, oda, osl⟩ := oe
        obtain ⟨h1, h2⟩ := hz
        dsimp only at h1 h2 hv
        subst h1 h2 hv
        cases odd with
        | none => exact ⟨none, hget, rfl, rfl, trivial⟩
        | some dd =>
          obtain ⟨fs, e⟩ := hd dd rfl
          have hx : ObjOk X.prog X.w H s.heap dd (.xd fs) := I.hok dd _ e
          obtain ⟨mA, hns, _⟩ := hx
          obtain ⟨o, ho, _⟩ := lookIn_ns hns
          exact ⟨some o, hget, rfl, rfl, ho⟩
      have cl : (PySem.W.clsIn X.K C).isSome = true := by
        have := hC.hd
        obtain ⟨cd, hc, _⟩ := PySem.W.any_some this
        rw [hc]; rfl
      exact PySem.W.kia_one (PySem.W.kitx_exc (od := od) cl hC.hg hC.hk hC.hs hC.ha hC.hn hC.ht hC.hm) I.kIn J hk (fun z => nomatch z) fun tk => ⟨.bl b, H, I.kept (t' := tk) fun _ _ z => z, rfl, q⟩
/-- the fields' object, as the store tells it -/
theorem pinned_at {K H ι} {g : G} {r b : Nat} {fs : List (String × D)} (s : SR_ K H ι g) (h : g[r]? = some (.xda b fs)) : ∃ vs, H b = some (.xd ((fs.map fun f => Str.ofString f.1).zip vs)) ∧ Reps K H ι (fs.map (·.2)) vs := by
  have hl := (List.getElem?_eq_some_iff.mp h).1
  have hr : ι[r]? = some (ι[r]'(by rw [s.len]; exact hl)) := List.getElem?_eq_getElem _
  obtain ⟨z, vs, h1, h2⟩ := s.obj r _ _ h hr
  rw [z] at h1
  exact ⟨vs, h1, h2⟩
theorem isE_read {i : Nat} {cl : String → Option Bool} {K mg σ H Q} (he : Held mg e cls d) (h : tE K mg W0 (mIsE cl i e a (d.getD 0)) σ H Q) : ∃ b, cl e.cls = some b ∧ σ[i]? = some (some (.ref a)) ∧ (∀ dd, d = some dd → ∃ fs, H dd = some (.xd fs)) ∧ Q (.bl b) H := by
  obtain ⟨ρ, g, ι, er, s, p⟩ := h
  unfold mIsE at p
  split at p
  · rename_i a' ha
    split at p
    · rename_i e1
      subst e1
      split at p
      · rename_i r hr
        split at p
        · rename_i b' fs hg
          split at p
          · rename_i e2
            obtain ⟨v, h1, h2⟩ := Post.ofP s p
            rw [Option.map_eq_some_iff] at h1
            obtain ⟨b, h1, rfl⟩ := h1
            refine ⟨b, h1, slot_adr er ha, fun dd hd => ?_, h2 _ (.bl b)⟩
            subst e2
            rw [hd] at hg
            obtain ⟨vs, h3, _⟩ := pinned_at s hg
            exact ⟨_, h3⟩
          · exact p.elim
        · exact p.elim
      · rename_i hr
        obtain ⟨v, h1, h2⟩ := Post.ofP s p
        rw [Option.map_eq_some_iff] at h1
        obtain ⟨b, h1, rfl⟩ := h1
        exact ⟨b, h1, slot_adr er ha, (fun dd hd => by rw [he.bare hr] at hd; cases hd), h2 _ (.bl b)⟩
    · exact p.elim
  · exact p.elim
theorem e_isE {x y : String} {i : Nat} {cl : String → Option Bool} {D : Addr} {p p1 p2 pos : Pos} (he : Held X.mg e cls d) (hz : Zc cls d oe) (hf : ∃ vs, oe.data = .fields vs) (hm : X.mg "isinstance" = none) (hy : X.mg (Str.ofString y) = some (.ref D)) (T : IsT X.K X.mg cl (.ref D))
    (hx : X.N[i]? = some (Str.ofString x) := by rfl) (hvis : Vis X.env.scope (Str.ofString x) := by exact .inl rfl) (hg : Gl X "isinstance" := by rfl) (hgy : Gl X (Str.ofString y) := by rfl) (hdx : ((Str.ofString x) == ("__debug__" : Str)) = false := by decide) (hdy : ((Str.ofString y) == ("__debug__" : Str)) = false := by decide) (hcx : ((Str.ofString x) == ("__classdict__" : Str)) = false := by decide)
    (hs : starEach [.Name (Str.ofString x) p1, .Name (Str.ofString y) p2] X.env = (false, eval (.Name (Str.ofString x) p1) X.env) :: starEach [.Name (Str.ofString y) p2] X.env := by rfl) (hs' : starEach [.Name (Str.ofString y) p2] X.env = (false, eval (.Name (Str.ofString y) p2) X.env) :: starEach [] X.env := by rfl)
    (hp : (backTo pos (starEach [.Name (Str.ofString y) p2] X.env)).any (·.1) = false := by rfl) :
    EE (X.suite a ((a, oe) :: pn)) W0 (.Call (.Name "isinstance" p) [.Name (Str.ofString x) p1, .Name (Str.ofString y) p2] [] pos) (mIsE cl i e a (d.getD 0)) := by
  have ha : PE (X.suite a ((a, oe) :: pn)) (.Name (Str.ofString x) p1) (tVar i) := pe_var hx hvis hdx hcx
  have hb : PE (X.suite a ((a, oe) :: pn)) (.Name (Str.ofString y) p2) (tC (.ref D)) := pe_glob hgy hy rfl hdy
  have hA := pa_cons ha (pa_cons hb pa_nil hs') hs
  refine ⟨fun pins s σ H Q I h => ?_⟩
  obtain ⟨b, h1, h2, h3, q⟩ := isE_read he h
  obtain ⟨C, hC, hk, hE⟩ := T e.cls b h1
  have e1 : cls = .ref C := Option.some.inj (he.cls.symm.trans hC)
  subst e1
  have cr := call_isH (X := X) (a := a) (pn := pn) hE hz hf hk
  exact (pe_callB cr hg hm (by decide +kernel) hA (by decide) (by decide) hs hp).run pins s σ H Q I ⟨_, h2, _, rfl, (fun v r => r), h3, q⟩
theorem e_isEB {x y : String} {i : Nat} {cl : String → Option Bool} {T' : String} {p p1 p2 pos : Pos} (he : Held X.mg e cls d) (hz : Zc cls d oe) (hf : ∃ vs, oe.data = .fields vs) (hm : X.mg "isinstance" = none) (hy : X.mg (Str.ofString y) = none) (hyb : bootBuiltins (Str.ofString y) = some (.type T')) (T : IsT X.K X.mg cl (.type T')) (hny : Str.ofString y ≠ "__name__" := by decide)
    (hx : X.N[i]? = some (Str.ofString x) := by rfl) (hvis : Vis X.env.scope (Str.ofString x) := by exact .inl rfl) (hg : Gl X "isinstance" := by rfl) (hgy : Gl X (Str.ofString y) := by rfl) (hdx : ((Str.ofString x) == ("__debug__" : Str)) = false := by decide) (hdy : ((Str.ofString y) == ("__debug__" : Str)) = false := by decide) (hcx : ((Str.ofString x) == ("__classdict__" : Str)) = false := by decide)
    (hs : starEach [.Name (Str.ofString x) p1, .Name (Str.ofString y) p2] X.env = (false, eval (.Name (Str.ofString x) p1) X.env) :: starEach [.Name (Str.ofString y) p2] X.env := by rfl) (hs' : starEach [.Name (Str.ofString y) p2] X.env = (false, eval (.Name (Str.ofString y) p2) X.env) :: starEach [] X.env := by rfl)
    (hp : (backTo pos (starEach [.Name (Str.ofString y) p2] X.env)).any (·.1) = false := by rfl) :
    EE (X.suite a ((a, oe) :: pn)) W0 (.Call (.Name "isinstance" p) [.Name (Str.ofString x) p1, .Name (Str.ofString y) p2] [] pos) (mIsE cl i e a (d.getD 0)) := by
  have ha : PE (X.suite a ((a, oe) :: pn)) (.Name (Str.ofString x) p1) (tVar i) := pe_var hx hvis hdx hcx
  have hb : PE (X.suite a ((a, oe) :: pn)) (.Name (Str.ofString y) p2) (tC (.ty T')) := pe_bltn hgy hy hyb rfl hny hdy
  have hA := pa_cons ha (pa_cons hb pa_nil hs') hs
  refine ⟨fun pins s σ H Q I h => ?_⟩
  obtain ⟨b, h1, h2, h3, q⟩ := isE_read he h
  obtain ⟨C, hC, hk, hE⟩ := T e.cls b h1
  have e1 : cls = .ref C := Option.some.inj (he.cls.symm.trans hC)
  subst e1
  have cr := call_isH (X := X) (a := a) (pn := pn) hE hz hf hk
  exact (pe_callB cr hg hm (by decide +kernel) hA (by decide) (by decide) hs hp).run pins s σ H Q I ⟨_, h2, _, rfl, (fun v r => r), h3, q⟩
theorem ofString_inj {s t : String} (h : Str.ofString s = Str.ofString t) : s = t := by
  rw [Str.ofString_eq_toList, Str.ofString_eq_toList] at h
  have h1 : s.toList.map Char.toNat = t.toList.map Char.toNat := by injection h with h; injection h
  have inj : ∀ (l r : List Char), l.map Char.toNat = r.map Char.toNat → l = r := by
    intro l
    induction l with
    | nil => intro r h; cases r with | nil => rfl | cons _ _ => simp at h
    | cons c l ih =>
      intro r h
      cases r with
      | nil => simp at h
      | cons e r =>
        simp only [List.map_cons, List.cons.injEq] at h
        rw [ih r h.2]
        congr 1
        have := congrArg Char.ofNat h.1
        rwa [Char.ofNat_toNat, Char.ofNat_toNat] at this
  have := inj _ _ h1
  have h2 := congrArg String.ofList this
  rwa [String.ofList_toList, String.ofList_toList] at h2
theorem zip_get {K H ι} : ∀ {fs : List (String × D)} {vs : List V} {f : String} {x : D}, Reps K H ι (fs.map (·.2)) vs → fs.lookup f = some x → ∃ v, ((fs.map fun f => Str.ofString f.1).zip vs).lookup (Str.ofString f) = some v ∧ Rep K H ι x v
  | [], _, _, _, _, h => by cases h
  | (n, y) :: fs, _, f, x, r, h => by
    rw [List.map_cons] at r
    cases r with
    | cons r1 r2 =>
      simp only [List.map_cons, List.zip_cons_cons, List.lookup] at h ⊢
      by_cases e : f = n
      · subst e
        simp at h ⊢
        subst h
        exact r1
      · have e1 : (f == n) = false := by simpa using e
        have e2 : (Str.ofString f == Str.ofString n) = false := by
          have : Str.ofString f ≠ Str.ofString n := fun z => e (ofString_inj z)
          simpa using this
        rw [e1] at h
        rw [e2]
        exact zip_get r2 h
theorem fldE_read {i : Nat} {f : String} {K mg σ H Q} (he : Held mg e cls d) (h : tE K mg W0 (mFldE f i e a (d.getD 0)) σ H Q) : ∃ dd fs v, d = some dd ∧ σ[i]? = some (some (.ref a)) ∧ H dd = some (.xd fs) ∧ fs.lookup (Str.ofString f) = some v ∧ Q v H := by
  obtain ⟨ρ, g, ι, er, s, p⟩ := h
  unfold mFldE at p
  split at p
  · rename_i a' ha
    split at p
    · rename_i e1
      subst e1
      split at p
      · rename_i r hr
        split at p
        · rename_i b' fs hg
          split at p
          · rename_i e2
            subst e2
            obtain ⟨x, h1, h2⟩ := Post.ofP s p
            obtain ⟨dd, hd⟩ := Option.isSome_iff_exists.mp (he.dict r hr)
            rw [hd] at hg
            obtain ⟨vs, h3, h4⟩ := pinned_at s hg
            obtain ⟨v, h5, h6⟩ := zip_get h4 h1
            exact ⟨dd, _, v, hd, slot_adr er ha, h3, h5, h2 v h6⟩
          · exact p.elim
        · exact p.elim
      · exact p.elim
    · exact p.elim
  · exact p.elim
theorem e_fldE {x f : String} {i : Nat} {cs : List String} {p1 pos : Pos} (he : Held X.mg e cls d) (hz : Zc cls d oe) (hf : ∃ vs, oe.data = .fields vs) (T : FlT X.K X.mg cs (Str.ofString f)) (hx : X.N[i]? = some (Str.ofString x) := by rfl) (hvis : Vis X.env.scope (Str.ofString x) := by exact .inl rfl)
    (hdx : ((Str.ofString x) == ("__debug__" : Str)) = false := by decide) (hcx : ((Str.ofString x) == ("__classdict__" : Str)) = false := by decide) (hb : attributeBase (.Name (Str.ofString x) p1) (Str.ofString f) X.env (eval (.Name (Str.ofString x) p1) X.env) = eval (.Name (Str.ofString x) p1) X.env := by rfl) :
    EE (X.suite a ((a, oe) :: pn)) W0 (.Attribute (.Name (Str.ofString x) p1) (Str.ofString f) pos) (mFldC cs f i e a (d.getD 0)) := by
  have hx' : PE (X.suite a ((a, oe) :: pn)) (.Name (Str.ofString x) p1) (tVar i) := pe_var hx hvis hdx hcx
  refine ⟨fun pins s σ H Q I h => ?_⟩
  by_cases hc : cs.contains e.cls = true
  · have h' : tE X.K X.mg W0 (mFldE f i e a (d.getD 0)) σ H Q := by
      obtain ⟨ρ, g, ι, er, s, p⟩ := h
      unfold mFldC at p
      rw [if_pos hc] at p
      exact ⟨ρ, g, ι, er, s, p⟩
    obtain ⟨dd, fs, v, h1, h2, h3, h4, q⟩ := fldE_read he h'
    obtain ⟨C, hC, hX, hno⟩ := T e.cls (by simpa using hc)
    have e1 : cls = .ref C := Option.some.inj (he.cls.symm.trans hC)
    exact (pe_xf (X := X) (a := a) (pn := pn) hX hno hz hf hx' hb).run pins s σ H Q I ⟨_, h2, rfl, e1, dd, fs, v, h1, h3, h4, q⟩
  · obtain ⟨ρ, g, ι, er, s, p⟩ := h
    unfold mFldC at p
    rw [if_neg hc] at p
    exact p.elim
end
end Py
end

section
set_option Elab.async false
set_option linter.all false
set_option maxRecDepth 100000
set_option maxHeartbeats 2000000
set_option autoImplicit false
/-! Own exceptions by facts of the head; calls that may let them out. -/
namespace PyJ
open PySem PySem.W PySem.Calls PyProof.Rows PySem.HandSPX He
/-! ### the class of an own exception, by looking -/
def iAd (K : Frag) (x : Str) : Addr := ma K (ga K x) "__init__"
abbrev FnX : Type := Option (Str × Str × Arguments × FuncBody × Scope × Addr × List Str × Value × Value × Addr)
def fnX (K : Frag) (a : Addr) : FnX := match K.lookup a with
  | some ⟨_, _, .func fd, _⟩ => some (fd.name, fd.qualname, fd.params, fd.body, fd.scope, fd.globals, fd.closure.map (·.1), fd.defaults, fd.kwdefaults, fd.builtins)
  | _ => none
/-- the class in a method's closure -/
def cellD (K : Frag) (a : Addr) : Addr := match K.lookup a with
  | some ⟨_, _, .func fd, _⟩ => (match fd.closure with
    | [(_, cc)] => (match K.lookup cc with
      | some ⟨_, _, .cell (some (.ref D)), _⟩ => D
      | _ => 0)
    | _ => 0)
  | _ => 0
def excB (K : Frag) (C : Addr) : Bool := match K.lookup C with
  | some ⟨.type "type", _, .cls cd, sl⟩ => (match cd.mro, sl.toList with
    | .ref C' :: bm, [_, _, _, _, some (.builtin n), _] => C' == C && (n == "ValueError.__new__" && (!cd.hasDel && (cd.hasDict && refsVE bm)))
    | _, _ => false)
  | _ => false
theorem excB_ok {K : Frag} {C : Addr} (q : excB K C = true) : ∃ nm q N bs bm sn sub ab col dd k0 k1 k2 k3 k5, K.lookup C = some (excClassObj nm q C N bs bm true sn sub ab col dd k0 k1 k2 k3 k5 "ValueError.__new__") ∧ refsVE bm = true := by
  unfold excB at q
  split at q
  · rename_i dd cd sl ho
    split at q
    · rename_i C' bm k0 k1 k2 k3 n k5 hm hs
      simp only [Bool.and_eq_true, beq_iff_eq, Bool.not_eq_true'] at q
      obtain ⟨rfl, rfl, hdel, hdic, hr⟩ := q
      obtain ⟨nm, bs, mro, ns, qn, hd, sn, sub, ab, col, del⟩ := cd
      dsimp only at hm hdel hdic
      subst hm hdel hdic
      obtain ⟨l⟩ := sl
      simp only at hs
      subst hs
      exact ⟨nm, qn, ns, bs, bm, sn, sub, ab, col, dd, k0, k1, k2, k3, k5, ho, hr⟩
    · cases q
  · cases q
/-- what the text says of one class: its name, __init__'s qualified name, parameters, body, scope, its fields -/
structure ErrD where
  x : Str
  qual : Str
  params : Arguments
  body : List Stmt
  scope : Scope
  fs : List Str
def ErrD.val (d : ErrD) : FnX := some ("__init__", d.qual, d.params, .stmts d.body, d.scope, mainGlobals, ["__class__"], .none, .none, builtinsNs)
def initB (K : Frag) (file : Str) (q : Str) (fI : Addr) : Bool := match K.lookup fI with
  | some ⟨_, _, .func fd, _⟩ => (match fd.code, fd.closure with
    | .ref cda, [(_, cc)] => codeIn K (.ref cda) q && ((match K.lookup cda with
        | some ⟨_, _, .fields vs, _⟩ => (match (vs[2]? : Option Value) with
          | some (.str f _) => file == f
          | _ => false)
        | _ => false) && (match K.lookup cc with
        | some ⟨_, _, .cell (some (.ref _)), _⟩ => true
        | _ => false))
    | _, _ => false)
  | _ => false
def ErrD.ok (file : Str) (K : Frag) (d : ErrD) : Bool :=
  eqO (nsIn K mainGlobals d.x) (some (some (.ref (ga K d.x)))) && (excB K (ga K d.x) && (eqO (findIn K (.ref (ga K d.x)) "__setattr__") (some (some (.builtin "object.__setattr__"))) &&
  ((d.fs.all fun f => eqO (findIn K (.ref (ga K d.x)) f) (some none)) && (eqO (findIn K (.ref (ga K d.x)) "__init__") (some (some (.ref (iAd K d.x)))) && (decide (typeIn K (.ref (iAd K d.x)) = some (.type "function")) &&
  (keepIn K (.ref (ga K d.x)) && (decide (subIn K (.ref (ga K d.x)) (.type "BaseException") = some true) && (decide (subIn K (.ref (ga K d.x)) (.type "ValueError") = some true) && (decide (typeIn K (.ref (ga K d.x)) = some (.type "type")) &&
  (initB K file d.qual (iAd K d.x) && ((clsIn K (cellD K (iAd K d.x))).isSome && (decide (mroIn K (ga K d.x) (.ref (cellD K (iAd K d.x))) = some true) && (eqO (ks_superIn K (ga K d.x) (cellD K (iAd K d.x)) "__init__") (some (some (.builtin "ValueError.__init__"))) &&
  eqO (nsIn K cStatics "thirdparty.any") (some none))))))))))))))
theorem init_ok {K : Frag} {P : Program} {file : Str} {d : ErrD} {fI : Addr} (hP : ((P.main.file : Str) == file) = true) (e : fnX K fI = d.val) (c : initB K file d.qual fI = true) :
    ∃ (oc oc2 oc3 : Value) (od od2 od3 : Option Addr) (doc pm : Value) (an : Option Addr) (cda cc : Addr) (ct : Value) (sl sl2 sl3 : Array (Option Value)) (q : Str) (vs : Array Value) (fl : Str) (tf : Tok),
    K.lookup fI = some ⟨oc, od, .func (ksFn "__init__" q d.params d.body d.scope .none .none doc pm an (.ref cda) ct cc), sl⟩ ∧ codeIn K (.ref cda) q = true ∧
    K.lookup cda = some ⟨oc2, od2, .fields vs, sl2⟩ ∧ vs[2]? = some (.str fl tf) ∧ ((P.main.file : Str) == fl) = true ∧ K.lookup cc = some ⟨oc3, od3, .cell (some (.ref (cellD K fI))), sl3⟩ := by
  unfold fnX at e
  unfold initB at c
  unfold cellD
  cases q : K.lookup fI with
  | none => rw [q] at c; cases c
  | some o =>
    obtain ⟨oc, od, dt, sl⟩ := o
    rw [q] at c e
    cases dt with
    | func fd =>
      obtain ⟨n1, n2, n3, n4, n5, n6, n7, n8, n9, n10, n11, n12, n13, n14, n15⟩ := fd
      have e2 : (some (n1, n2, n3, n4, n5, n6, n7.map (·.1), n8, n9, n15) : FnX) = (some ("__init__", d.qual, d.params, .stmts d.body, d.scope, mainGlobals, ["__class__"], .none, .none, builtinsNs) : FnX) := e
      simp only [Option.some.injEq, Prod.mk.injEq] at e2
      obtain ⟨h1, h2, h3, h4, h5, h6, h7, h8, h9, h10⟩ := e2
      subst h1 h2 h3 h4 h5 h6 h8 h9 h10
      dsimp only at c
      split at c
      · rename_i cda y cc
        simp only [List.map_cons, List.map_nil, List.cons.injEq, and_true] at h7
        subst h7
        obtain ⟨c1, c2⟩ := ba c
        obtain ⟨c3, c4⟩ := ba c2
        split at c3
        · rename_i oc2 od2 vs sl2 hl2
          split at c3
          · rename_i fl tf hf
            split at c4
            · rename_i oc3 od3 D sl3 hl3
              dsimp only
              rw [hl3]
              exact ⟨oc, oc2, oc3, od, od2, od3, _, _, _, cda, cc, _, sl, sl2, sl3, _, vs, fl, tf, rfl, c1, hl2, hf, by rw [← eq_of_beq c3]; exact hP, hl3⟩
            · cases c4
          · cases c3
        · cases c3
      · cases c
    | _ => cases c
theorem herr_of {K : Frag} {P : Program} {file : Str} {d : ErrD} (hP : ((P.main.file : Str) == file) = true) (htop : (P.main.scope.names.lookup ("super" : Str)).isSome = false) (e : fnX K (iAd K d.x) = d.val) (c : d.ok file K = true) :
    nsIn K mainGlobals d.x = some (some (.ref (ga K d.x))) ∧ PyX.HErr K P (ga K d.x) (iAd K d.x) (cellD K (iAd K d.x)) d.fs d.params d.body d.scope := by
  unfold ErrD.ok at c
  obtain ⟨c0, c⟩ := ba c
  obtain ⟨c1, c⟩ := ba c
  obtain ⟨c2, c⟩ := ba c
  obtain ⟨c3, c⟩ := ba c
  obtain ⟨c4, c⟩ := ba c
  obtain ⟨c5, c⟩ := ba c
  obtain ⟨c6, c⟩ := ba c
  obtain ⟨c7, c⟩ := ba c
  obtain ⟨c8, c⟩ := ba c
  obtain ⟨c9, c⟩ := ba c
  obtain ⟨c10, c⟩ := ba c
  obtain ⟨c11, c⟩ := ba c
  obtain ⟨c12, c⟩ := ba c
  obtain ⟨c13, c14⟩ := ba c
  refine ⟨eqO_ok c0, excB_ok c1, eqO_ok c2, fun f hf => eqO_ok (List.all_eq_true.mp c3 f hf), eqO_ok c4, of_decide_eq_true c5, c6, of_decide_eq_true c7, of_decide_eq_true c8, of_decide_eq_true c9, init_ok hP e c10, ?_, of_decide_eq_true c12, eqO_ok c13, eqO_ok c14, htop⟩
  exact Option.isSome_iff_exists.mp c11
/-! ### tables -/
def askB (K : Frag) (D : Addr) : Bool := eqO (findIn K (.ref D) "__getattribute__") (some (some (.builtin "BaseException.__getattribute__"))) && (eqO (findIn K (.ref D) "__getattr__") (some none) && (decide (subIn K (.ref D) (.type "BaseException") = some true) &&
  (hasDictIn K D && (eqO (findIn K (.ref D) "__class__") (some (some (.builtin "object.__class__"))) && (eqO (specialIn K (.builtin "object.__class__") "__get__") (some (some (.builtin "getset_descriptor.__get__"))) && (decide (takesIn K (.builtin "object.__class__") = some true) &&
  decide (mroIn K D (.type "object") = some true)))))))
theorem askB_ok {K : Frag} {D : Addr} (c : askB K D = true) : L2.ExcC K D ∧ L2.XfC K D := by
  unfold askB at c
  obtain ⟨c1, c⟩ := ba c
  obtain ⟨c2, c⟩ := ba c
  obtain ⟨c3, c⟩ := ba c
  obtain ⟨c4, c⟩ := ba c
  obtain ⟨c5, c⟩ := ba c
  obtain ⟨c6, c⟩ := ba c
  obtain ⟨c7, c8⟩ := ba c
  exact ⟨⟨eqO_ok c1, eqO_ok c2, of_decide_eq_true c3, c4, eqO_ok c5, eqO_ok c6, of_decide_eq_true c7, of_decide_eq_true c8⟩, ⟨eqO_ok c1, eqO_ok c2, of_decide_eq_true c3, c4⟩⟩
/-- the class u, asked of the classes of tab -/
def isB (u : Frag → Value) (tab : List (String × Bool)) (K : Frag) : Bool := tab.all fun p => eqO (nsIn K mainGlobals (Str.ofString p.1)) (some (some (.ref (ga K (Str.ofString p.1))))) && (decide (kitOne K (.ref (ga K (Str.ofString p.1))) (u K) = some p.2) && askB K (ga K (Str.ofString p.1)))
def exB (u : Frag → Value) (tab : List (String × Bool)) (K : Frag) : Bool := tab.all fun p => eqO (nsIn K mainGlobals (Str.ofString p.1)) (some (some (.ref (ga K (Str.ofString p.1))))) && decide (exmOne K (.ref (ga K (Str.ofString p.1))) (u K) = some p.2)
def flB (f : Str) (cs : List String) (K : Frag) : Bool := cs.all fun c => eqO (nsIn K mainGlobals (Str.ofString c)) (some (some (.ref (ga K (Str.ofString c))))) && (askB K (ga K (Str.ofString c)) && eqO (findIn K (.ref (ga K (Str.ofString c))) f) (some none))
theorem look_mem {α : Type} {c : String} {b : α} : ∀ {tab : List (String × α)}, tab.lookup c = some b → (c, b) ∈ tab
  | [], h => by cases h
  | (x, y) :: t, h => by
    simp only [List.lookup] at h
    cases e : (c == x) with
    | true =>
      rw [e] at h
      cases h
      rw [eq_of_beq e]
      exact List.mem_cons_self
    | false =>
      rw [e] at h
      exact List.mem_cons_of_mem _ (look_mem h)
section
variable {K : Frag} {h : Heap} {mg : Str → Option Value}
theorem isB_ok (X : K.In h) (G : h.Ns mainGlobals mg) {u : Frag → Value} {tab : List (String × Bool)} (c : isB u tab K = true) : Py.IsT K mg (Py.clT tab) (u K) := fun x b hx => by
  have c1 := List.all_eq_true.mp c (x, b) (look_mem hx)
  obtain ⟨c2, c3⟩ := ba c1
  obtain ⟨c4, c5⟩ := ba c3
  exact ⟨ga K (Str.ofString x), mg_of X G (eqO_ok c2), of_decide_eq_true c4, (askB_ok c5).1⟩
theorem exB_ok (X : K.In h) (G : h.Ns mainGlobals mg) {u : Frag → Value} {tab : List (String × Bool)} (c : exB u tab K = true) : Py.ExT K mg (Py.clT tab) (u K) := fun x b hx => by
  have c1 := List.all_eq_true.mp c (x, b) (look_mem hx)
  obtain ⟨c2, c3⟩ := ba c1
  exact ⟨ga K (Str.ofString x), mg_of X G (eqO_ok c2), of_decide_eq_true c3⟩
theorem flB_ok (X : K.In h) (G : h.Ns mainGlobals mg) {f : Str} {cs : List String} (c : flB f cs K = true) : Py.FlT K mg cs f := fun x hx => by
  have c1 := List.all_eq_true.mp c x hx
  obtain ⟨c2, c3⟩ := ba c1
  obtain ⟨c4, c5⟩ := ba c3
  exact ⟨ga K (Str.ofString x), mg_of X G (eqO_ok c2), (askB_ok c4).2, eqO_ok c5⟩
end
/-! ### the hook -/
def asX (g : Addr → Option Obj) : Nat → List Addr
  | 0 => [mainGlobals, cStatics]
  | n + 1 => growD g (asX g n)
abbrev AlX : Type := AlD × Bool × List FnX
def obsX (fa : List Fa) (fn : List DefD) (file : Str) (es : List ErrD) (bs : List (Frag → Bool)) (K : Frag) : AlX := (obsD fa fn K, ((es.all fun d => d.ok file K) && bs.all fun b => b K), es.map fun d => fnX K (iAd K d.x))
def valX (fn : List DefD) (es : List ErrD) : AlX := (valD fn, true, es.map ErrD.val)
def SaysX (fa : List Fa) (fn : List DefD) (file : Str) (es : List ErrD) (bs : List (Frag → Bool)) (K : Frag) : Prop := obsX fa fn file es bs K = valX fn es
def obsXG (n : Nat) (fa : List Fa) (fn : List DefD) (file : Str) (es : List ErrD) (bs : List (Frag → Bool)) (g : Addr → Option Obj) : AlX := obsX fa fn file es bs (frG g (asX g n))
def hookX (n : Nat) (fa : List Fa) (fn : List DefD) (file : Str) (es : List ErrD) (bs : List (Frag → Bool)) : Hook where
  α := AlX
  obs := fun s => obsXG n fa fn file es bs s.heap.get?
  val := fun _ => valX fn es
  says := fun _ h => ∃ K : Frag, K.In h ∧ SaysX fa fn file es bs K
  of := fun _ _ e => ⟨_, frG_in, e⟩
  keeps := fun _ _ _ ⟨K, hK, c⟩ k => ⟨K, Frag.In.keeps hK k, c⟩
theorem obsXG_eq {n : Nat} {fa : List Fa} {fn : List DefD} {file : Str} {es : List ErrD} {bs : List (Frag → Bool)} {g : Addr → Option Obj} {s : Shared} (h : ∀ a, g a = s.heap.get? a) : obsXG n fa fn file es bs g = (hookX n fa fn file es bs).obs s := by
  have e : g = s.heap.get? := funext h
  rw [e] <;> rfl
section
variable {fa : List Fa} {fn : List DefD} {file : Str} {es : List ErrD} {bs : List (Frag → Bool)} {K : Frag}
theorem SaysX.d (c : SaysX fa fn file es bs K) : SaysD fa fn K := congrArg (fun z : AlX => z.1) c
theorem SaysX.bool (c : SaysX fa fn file es bs K) (i : Nat) {b : Frag → Bool} (h : bs[i]? = some b := by rfl) : b K = true := by
  have c1 : ((es.all fun d => d.ok file K) && bs.all fun b => b K) = true := congrArg (fun z : AlX => z.2.1) c
  exact List.all_eq_true.mp (ba c1).2 b (List.mem_of_getElem? h)
theorem SaysX.err (c : SaysX fa fn file es bs K) {P : Program} (hP : ((P.main.file : Str) == file) = true) (htop : (P.main.scope.names.lookup ("super" : Str)).isSome = false) (i : Nat) {d : ErrD} (h : es[i]? = some d := by rfl) :
    nsIn K mainGlobals d.x = some (some (.ref (ga K d.x))) ∧ PyX.HErr K P (ga K d.x) (iAd K d.x) (cellD K (iAd K d.x)) d.fs d.params d.body d.scope := by
  have c1 : ((es.all fun d => d.ok file K) && bs.all fun b => b K) = true := congrArg (fun z : AlX => z.2.1) c
  have c2 : es.map (fun d => fnX K (iAd K d.x)) = es.map ErrD.val := congrArg (fun z : AlX => z.2.2) c
  have c3 : (es.map fun d => fnX K (iAd K d.x))[i]? = (es.map ErrD.val)[i]? := by rw [c2]
  rw [List.getElem?_map, List.getElem?_map, h] at c3
  exact herr_of hP htop (Option.some.inj c3) (List.all_eq_true.mp (ba c1).1 d (List.mem_of_getElem? h))
end
end PyJ
namespace PyJ
open PySem
def initOf (st : Stmt) : Stmt := match st with | .ClassDef _ _ _ body .. => body.getD 0 (.Pass ⟨0, 0, 0, 0⟩) | _ => .Pass ⟨0, 0, 0, 0⟩
end PyJ
namespace Py
open PySem L2
/-! ### calls that may let an exception out -/
section
variable {X : Cx} {W : WX} {e : Expr} {es : List Expr} {k j n : Nat} {x : Str} {p pos : Pos} {f : F} {as : A}
theorem post_s {K mg} {α : Type} {σ : St} {H : Hp} {ι : List Addr} {r : R α} {k : α → G → Hp → List Addr → Prop} (p : Post K mg W σ H ι r k) : Post K mg (fun c d _ H' => W c d σ H') [] H ι r k := by
  cases r <;> exact p
theorem e_callS (cl : Cal X.prog X.w X.K X.mg X.base (L2.CX X.prog X.w) k x n f) (hr : Room j X.A) (hk : k ≤ j) (tk : Takes X W) (ha : AA X W (e :: es) as) (hg : Gl X x := by rfl)
    (hdb : (x == ("__debug__" : Str)) = false := by decide) (he : starEach (e :: es) X.env = (false, eval e X.env) :: starEach es X.env := by rfl) (hpl : (backTo pos (starEach es X.env)).any (·.1) = false := by rfl)
    (hn : ∀ ρ g ds g', as ρ g = .ok ds g' → ds.length = n) : EE X W (.Call (.Name x p) (e :: es) [] pos) (mCall f as) := by
  obtain ⟨a, fd, ps, F, hm, kp, b⟩ := cl.ex
  refine (pe_callS F (hr.mono hk) hg hm kp b (passAt tk) ha hdb he hpl).mono fun σ H Q ⟨ρ, g, ι, er, s, p⟩ => ?_
  refine ⟨ρ, g, ι, er, s, (Post.bind p).imp fun ds g1 H1 ι1 e1 x1 s1 p1 vs rs => ?_⟩
  exact ⟨ds, g1, ι1, s1, rs, hn ρ g ds g1 e1, post_s p1⟩
theorem e_callS0 (cl : Cal X.prog X.w X.K X.mg X.base (L2.CX X.prog X.w) k x 0 f) (hr : Room j X.A) (hk : k ≤ j) (tk : Takes X W) (hg : Gl X x := by rfl)
    (hdb : (x == ("__debug__" : Str)) = false := by decide) : EE X W (.Call (.Name x p) [] [] pos) (mCall f mNil) := by
  obtain ⟨a, fd, ps, F, hm, kp, b⟩ := cl.ex
  have pe : PE X (.Call (.Name x p) [] [] pos) (fun σ H Q => spF X.K X.mg 0 f [] H Q (WE W σ)) := by
    refine ⟨fun pins s σ H Q I h => ?_⟩
    refine wpAny_Call_Name_kw (ld_glob I hg hm ?_ hdb)
    exact PySem.W.callWith_K0 I.kIn kp (run_fnS (us := []) F (hr.mono hk) b (passAt tk σ) I .nil h)
  refine pe.mono fun σ H Q ⟨ρ, g, ι, er, s, p⟩ => ?_
  exact ⟨[], g, ι, s, .nil, rfl, post_s p⟩
theorem tk_go {st : List Stmt} {b : S} (tk : Takes X W) (h : Takes X W → SSs X W st b) : SSs X W st b := h tk
end
/-- a def that lets nothing out -/
def sp0 (sp : Sp) : Sp := fun vs H Q _ => sp vs H Q fun _ _ _ => False
theorem fn_calm {P : Program} {w : World} {K : PySem.W.Frag} {mg : Str → Option Value} {base : Heap} {k : Nat} {fa : Addr} {fd : FuncData} {ps : List Str} {sp : Sp} (F : FnOk P w K mg base (L2.CX P w) k fa fd ps sp) : FnOk P w K mg base CX0 k fa fd ps (sp0 sp) := by
  refine ⟨fun vs H Q E h => F.len vs H Q _ h, fun A outer s H args us vs Q E hr he hb hv h => codeAny_mono (F.run A outer s H args us vs Q _ hr he hb hv h) fun r s' z => ?_⟩
  cases r with
  | ok fl => cases fl <;> exact z
  | error e =>
    obtain ⟨_, _, _, _, _, _, _, _, _, _, _, _, q⟩ := z
    exact q.elim
end Py
end

section
set_option autoImplicit false
set_option linter.all false
/-! Reasoning about the small semantics: weakest preconditions as rewriting. -/
namespace Py
def wp {α : Type} (r : R α) (Q : α → G → Prop) : Prop := match r with | .ok a g => Q a g | _ => False
structure Kt where
  nx : Env → G → Prop
  rt : D → G → Prop
  bk : Env → G → Prop
  ct : Env → G → Prop
def wpS (r : SR) (k : Kt) : Prop := match r with | .next ρ g => k.nx ρ g | .ret d g => k.rt d g | .brk ρ g => k.bk ρ g | .cont ρ g => k.ct ρ g | _ => False
section
variable {α β : Type} {Q : α → G → Prop} {Q' : D → G → Prop} {ρ : Env} {g : G} {k : Kt}
@[simp] theorem wp_ok (a : α) : wp (.ok a g) Q = Q a g := rfl
@[simp] theorem wp_bad : wp (α := α) .bad Q = False := rfl
@[simp] theorem wp_exc (e : Exc) : wp (α := α) (.exc e g) Q = False := rfl
@[simp] theorem wp_bind (r : R β) (f : β → G → R α) : wp (r.bind f) Q = wp r fun a g => wp (f a g) Q := by cases r <;> rfl
theorem wp_imp {r : R α} {P : α → G → Prop} (h : wp r P) (i : ∀ a g, P a g → Q a g) : wp r Q := by cases r <;> first | exact i _ _ h | exact h
theorem wp_and {r : R α} {P : α → G → Prop} (h : wp r P) (h' : wp r Q) : wp r fun a g => P a g ∧ Q a g := by cases r <;> first | exact ⟨h, h'⟩ | exact h
@[simp] theorem wp_ite (c : Prop) [Decidable c] (x y : R α) : wp (if c then x else y) Q = if c then wp x Q else wp y Q := by split <;> rfl
theorem wp_ofP (o : Option α) : wp (ofP o g) Q ↔ ∃ a, o = some a ∧ Q a g := by
  cases o with
  | none => exact ⟨fun h => h.elim, fun ⟨_, h, _⟩ => by cases h⟩
  | some a => exact ⟨fun h => ⟨a, rfl, h⟩, fun ⟨_, h, q⟩ => by cases h; exact q⟩
theorem wp_ofO (o : Option (α × G)) : wp (ofO o) Q ↔ ∃ a g', o = some (a, g') ∧ Q a g' := by
  cases o with
  | none => exact ⟨fun h => h.elim, fun ⟨_, _, h, _⟩ => by cases h⟩
  | some p => exact ⟨fun h => ⟨p.1, p.2, rfl, h⟩, fun ⟨_, _, h, q⟩ => by cases h; exact q⟩
theorem wp_ofO_some {o : Option (α × G)} {a : α} {g' : G} (h : o = some (a, g')) : wp (ofO o) Q = Q a g' := by subst h; rfl
/-! ### expressions -/
def vr (o : Option (Option D)) (g : G) : R D := match o with | some (some d) => .ok d g | _ => .bad
@[simp] theorem vr_some (d : D) : vr (some (some d)) g = .ok d g := rfl
@[simp] theorem x_var (i : Nat) : mVar i ρ g = vr ρ[i]? g := rfl
@[simp] theorem x_C (d : D) : mC d ρ g = .ok d g := rfl
@[simp] theorem x_op (f : N2) (a b : M) : mOp f a b ρ g = (a ρ g).bind fun x g1 => (b ρ g1).bind fun y g2 => ofO (f x y g2) := rfl
@[simp] theorem x_un (f : N1) (a : M) : mUn f a ρ g = (a ρ g).bind fun x g1 => ofO (f x g1) := rfl
@[simp] theorem x_nil : mNil ρ g = .ok [] g := rfl
@[simp] theorem x_cons (a : M) (as : A) : mCons a as ρ g = (a ρ g).bind fun x g1 => (as ρ g1).bind fun xs g2 => .ok (x :: xs) g2 := rfl
@[simp] theorem x_tup (as : A) : mTup as ρ g = (as ρ g).bind fun xs g1 => if xs.length ≤ LINE then .ok (.tup xs) g1 else .bad := rfl
@[simp] theorem x_lst (as : A) : mLst as ρ g = (as ρ g).bind fun xs g1 => if xs.length ≤ LINE then .ok (.ref g1.length) (g1 ++ [.lst xs]) else .bad := rfl
@[simp] theorem x_call (f : F) (as : A) : mCall f as ρ g = (as ρ g).bind fun xs g1 => f xs g1 := rfl
@[simp] theorem x_if (t : T) (a b : M) : mIf t a b ρ g = (t ρ g).bind fun c g1 => if c then a ρ g1 else b ρ g1 := rfl
@[simp] theorem x_and (a b : M) : mAnd a b ρ g = (a ρ g).bind fun x g1 => (ofP (asB x) g1).bind fun c g2 => if c then b ρ g2 else .ok (.bl false) g2 := rfl
@[simp] theorem x_or (a b : M) : mOr a b ρ g = (a ρ g).bind fun x g1 => (ofP (asB x) g1).bind fun c g2 => if c then .ok (.bl true) g2 else b ρ g2 := rfl
@[simp] theorem x_not (a : M) : mNot a ρ g = (a ρ g).bind fun x g1 => (ofP (asB x) g1).bind fun c g2 => .ok (.bl (!c)) g2 := rfl
@[simp] theorem x_chain (f f' : B2) (a b c : M) : mChain f f' a b c ρ g = (a ρ g).bind fun x g1 => (b ρ g1).bind fun y g2 => (ofP (f x y g2) g2).bind fun z g3 =>
  (ofP (asB z) g3).bind fun k g4 => if k then (c ρ g4).bind fun w g5 => ofP (f' y w g5) g5 else .ok (.bl false) g4 := rfl
@[simp] theorem x_tVal (a : M) : tVal a ρ g = (a ρ g).bind fun x g1 => ofP (asB x) g1 := rfl
@[simp] theorem x_tTru (a : M) : tTru a ρ g = (a ρ g).bind fun x g1 => ofP (truth x g1) g1 := rfl
@[simp] theorem x_tAnd (a b : T) : tAnd a b ρ g = (a ρ g).bind fun c g1 => if c then b ρ g1 else .ok false g1 := rfl
@[simp] theorem x_tOr (a b : T) : tOr a b ρ g = (a ρ g).bind fun c g1 => if c then .ok true g1 else b ρ g1 := rfl
@[simp] theorem x_tNot (a : T) : tNot a ρ g = (a ρ g).bind fun c g1 => .ok (!c) g1 := rfl
@[simp] theorem x_tYes : tYes ρ g = .ok true g := rfl
@[simp] theorem x_sl (a : M) (lo hi : Option M) : mSl a lo hi ρ g = (a ρ g).bind fun x g1 => (mIx lo ρ g1).bind fun l g2 => (mIx hi ρ g2).bind fun h g3 => ofO (oSl x l h g3) := rfl
@[simp] theorem x_ixN : mIx none ρ g = .ok none g := rfl
@[simp] theorem x_ixS (m : M) : mIx (some m) ρ g = (m ρ g).bind fun d g1 => (ofP (asI d) g1).bind fun i g2 => .ok (some i) g2 := rfl
@[simp] theorem x_app (o e : M) : mApp o e ρ g = (o ρ g).bind fun x g1 => if (lstOf x g1).isSome then (e ρ g1).bind fun y g2 => ofO (oAppend x y g2) else .bad := rfl
@[simp] theorem x_asB (b : Bool) : asB (.bl b) = some b := rfl
@[simp] theorem x_asI (i : Int) : asI (.int i) = some i := rfl
@[simp] theorem x_any (a : M) : iAny a ρ g = (a ρ g).bind fun x g1 => ofP (iterOf x g1) g1 := rfl
@[simp] theorem x_lc (w : I) (t : Tg) (c : T) (e : M) (own : List Nat) : mLc w t c e own ρ g = (w ρ g).bind fun it g1 => lcGo it.get t c e (wipe ρ own) g1.length (it.n + 1) 0 (g1 ++ [.lst []]) := rfl
@[simp] theorem ofO_p2 (f : B2) (x y : D) : ofO (p2 f x y g) = ofP (f x y g) g := by
  unfold p2
  cases f x y g <;> rfl
@[simp] theorem ofO_p1 (f : B1) (x : D) : ofO (p1 f x g) = ofP (f x g) g := by
  unfold p1
  cases f x g <;> rfl
/-! ### operators on ints, texts -/
@[simp] theorem add_int (i j : Int) : oAdd (.int i) (.int j) g = some (.int (i + j), g) := rfl
@[simp] theorem add_str (s t : List Char) : wp (ofO (oAdd (.str s) (.str t) g)) Q' ↔ s.length + t.length ≤ LINE ∧ Q' (.str (s ++ t)) g := by
  show wp (ofO (if s.length + t.length ≤ LINE then _ else none)) Q' ↔ _
  split
  · rename_i h; exact ⟨fun q => ⟨h, q⟩, fun q => q.2⟩
  · rename_i h; exact ⟨fun q => q.elim, fun q => absurd q.1 h⟩
@[simp] theorem add_tup (s t : List D) : wp (ofO (oAdd (.tup s) (.tup t) g)) Q' ↔ s.length + t.length ≤ LINE ∧ Q' (.tup (s ++ t)) g := by
  show wp (ofO (if s.length + t.length ≤ LINE then _ else none)) Q' ↔ _
  split
  · rename_i h; exact ⟨fun q => ⟨h, q⟩, fun q => q.2⟩
  · rename_i h; exact ⟨fun q => q.elim, fun q => absurd q.1 h⟩
theorem add_lst {a b : Nat} {xs ys : List D} (h1 : g[a]? = some (.lst xs)) (h2 : g[b]? = some (.lst ys)) : wp (ofO (oAdd (.ref a) (.ref b) g)) Q' ↔ xs.length + ys.length ≤ LINE ∧ Q' (.ref g.length) (g ++ [.lst (xs ++ ys)]) := by
  have e1 : mutOf (.ref a) g = some (a, xs) := by unfold mutOf; dsimp only; rw [h1]
  have e2 : mutOf (.ref b) g = some (b, ys) := by unfold mutOf; dsimp only; rw [h2]
  unfold oAdd
  dsimp only
  rw [e1, e2]
  show wp (ofO (if xs.length + ys.length ≤ LINE then _ else none)) Q' ↔ _
  split
  · rename_i h; exact ⟨fun q => ⟨h, q⟩, fun q => q.2⟩
  · rename_i h; exact ⟨fun q => q.elim, fun q => absurd q.1 h⟩
@[simp] theorem sub_int (i j : Int) : oSub (.int i) (.int j) g = some (.int (i - j), g) := rfl
@[simp] theorem mul_int (i j : Int) : wp (ofO (oMul (.int i) (.int j) g)) Q' ↔ mulOk i j = true ∧ Q' (.int (i * j)) g := by
  show wp (ofO (if mulOk i j = true then _ else none)) Q' ↔ _
  split
  · rename_i h; exact ⟨fun q => ⟨h, q⟩, fun q => q.2⟩
  · rename_i h; exact ⟨fun q => q.elim, fun q => absurd q.1 h⟩
@[simp] theorem mul_str (s : List Char) (n : Int) : wp (ofO (oMul (.str s) (.int n) g)) Q' ↔ (2 ≤ n ∧ n ≤ 1000 ∧ s.length ≤ 1000) ∧ Q' (.str (List.replicate n.toNat s).flatten) g := by
  show wp (ofO (if 2 ≤ n ∧ n ≤ 1000 ∧ s.length ≤ 1000 then _ else none)) Q' ↔ _
  split
  · rename_i h; exact ⟨fun q => ⟨h, q⟩, fun q => q.2⟩
  · rename_i h; exact ⟨fun q => q.elim, fun q => absurd q.1 h⟩
@[simp] theorem mul_tup (s : List D) (n : Int) : wp (ofO (oMul (.tup s) (.int n) g)) Q' ↔ (2 ≤ n ∧ n ≤ 1000 ∧ s.length ≤ 1000 ∧ s.length ≠ 0) ∧ Q' (.tup (List.replicate n.toNat s).flatten) g := by
  show wp (ofO (if 2 ≤ n ∧ n ≤ 1000 ∧ s.length ≤ 1000 ∧ s.length ≠ 0 then _ else none)) Q' ↔ _
  split
  · rename_i h; exact ⟨fun q => ⟨h, q⟩, fun q => q.2⟩
  · rename_i h; exact ⟨fun q => q.elim, fun q => absurd q.1 h⟩
@[simp] theorem fdiv_int (i j : Int) : wp (ofO (oFdiv (.int i) (.int j) g)) Q' ↔ (0 < j ∧ j.natAbs.log2 < 9000) ∧ Q' (.int (i / j)) g := by
  show wp (ofO (if 0 < j ∧ j.natAbs.log2 < 9000 then _ else none)) Q' ↔ _
  split
  · rename_i h; exact ⟨fun q => ⟨h, q⟩, fun q => q.2⟩
  · rename_i h; exact ⟨fun q => q.elim, fun q => absurd q.1 h⟩
@[simp] theorem mod_int (i j : Int) : wp (ofO (oMod (.int i) (.int j) g)) Q' ↔ 0 < j ∧ Q' (.int (i % j)) g := by
  show wp (ofO (if 0 < j then _ else none)) Q' ↔ _
  split
  · rename_i h; exact ⟨fun q => ⟨h, q⟩, fun q => q.2⟩
  · rename_i h; exact ⟨fun q => q.elim, fun q => absurd q.1 h⟩
@[simp] theorem pow_int (i j : Int) : wp (ofO (oPow (.int i) (.int j) g)) Q' ↔ powOk i j = true ∧ Q' (.int (i ^ j.toNat)) g := by
  show wp (ofO (if powOk i j = true then _ else none)) Q' ↔ _
  split
  · rename_i h; exact ⟨fun q => ⟨h, q⟩, fun q => q.2⟩
  · rename_i h; exact ⟨fun q => q.elim, fun q => absurd q.1 h⟩
@[simp] theorem neg_int (i : Int) : oNeg (.int i) g = some (.int (-i), g) := rfl
@[simp] theorem eqD_int (i j : Int) : eqD (.int i) (.int j) g = some (i == j) := rfl
@[simp] theorem eqD_str (i j : List Char) : eqD (.str i) (.str j) g = some (i == j) := rfl
@[simp] theorem eqD_bl (i j : Bool) : eqD (.bl i) (.bl j) g = some (i == j) := rfl
@[simp] theorem eq_def (x y : D) : oEq x y g = (eqD x y g).map .bl := rfl
@[simp] theorem ne_def (x y : D) : oNe x y g = (eqD x y g).map fun b => .bl (!b) := rfl
@[simp] theorem in_def (x y : D) : oIn x y g = (inD x y g).map .bl := rfl
@[simp] theorem notIn_def (x y : D) : oNotIn x y g = (inD x y g).map fun b => .bl (!b) := rfl
@[simp] theorem lt_int (i j : Int) : oLt (.int i) (.int j) g = some (.bl (decide (i < j))) := rfl
@[simp] theorem le_int (i j : Int) : oLe (.int i) (.int j) g = some (.bl (decide (i ≤ j))) := rfl
@[simp] theorem gt_int (i j : Int) : oGt (.int i) (.int j) g = some (.bl (decide (j < i))) := rfl
@[simp] theorem ge_int (i j : Int) : oGe (.int i) (.int j) g = some (.bl (decide (j ≤ i))) := rfl
@[simp] theorem in_str (c : Char) (t : List Char) : inD (.str [c]) (.str t) g = some (decide (c ∈ t)) := rfl
theorem inD_ref (x : D) (r : Nat) : inD x (.ref r) g = match lstOf (.ref r) g with
    | some xs => match view g 60 x, viewL (view g 60) xs with
      | some p, some ps => some (ps.any fun q => P.eqv q p)
      | _, _ => none
    | none => none := by
  cases x with
  | str s => rcases s with _ | ⟨c, _ | ⟨d, s⟩⟩ <;> rfl
  | _ => rfl
theorem inD_tup (x : D) (ds : List D) : inD x (.tup ds) g = if flat x && ds.all flat then some (ds.any fun y => eqF y x) else none := by
  cases x with
  | str s => rcases s with _ | ⟨c, _ | ⟨d, s⟩⟩ <;> rfl
  | _ => rfl
@[simp] theorem isN_non : oIsN .non .non g = some (.bl true) := rfl
@[simp] theorem isN_bl (b : Bool) : oIsN (.bl b) .non g = some (.bl false) := rfl
@[simp] theorem isN_int (b : Int) : oIsN (.int b) .non g = some (.bl false) := rfl
@[simp] theorem isN_str (b : List Char) : oIsN (.str b) .non g = some (.bl false) := rfl
@[simp] theorem isN_tup (b : List D) : oIsN (.tup b) .non g = some (.bl false) := rfl
@[simp] theorem isN_ref (b : Nat) : oIsN (.ref b) .non g = some (.bl false) := rfl
@[simp] theorem notN_non : oNotN .non .non g = some (.bl false) := rfl
@[simp] theorem notN_bl (b : Bool) : oNotN (.bl b) .non g = some (.bl true) := rfl
@[simp] theorem notN_int (b : Int) : oNotN (.int b) .non g = some (.bl true) := rfl
@[simp] theorem notN_str (b : List Char) : oNotN (.str b) .non g = some (.bl true) := rfl
@[simp] theorem notN_tup (b : List D) : oNotN (.tup b) .non g = some (.bl true) := rfl
@[simp] theorem notN_ref (b : Nat) : oNotN (.ref b) .non g = some (.bl true) := rfl
/-! ### places -/
@[simp] theorem idx_tup (ds : List D) (i : Int) : oIdx (.tup ds) (.int i) g = atI ds i := rfl
theorem idx_ref {r : Nat} {ds : List D} (i : Int) (h : lstOf (.ref r) g = some ds) : oIdx (.ref r) (.int i) g = atI ds i := by unfold oIdx; dsimp only; rw [h]; rfl
@[simp] theorem idx_str (s : List Char) (i : Int) : oIdx (.str s) (.int i) g = if s.length ≤ LINE then (atI s i).map fun c => .str [c] else none := rfl
theorem atI_nat {γ : Type} (xs : List γ) (n : Nat) : atI xs (n : Int) = xs[n]? := by
  unfold atI ix
  rw [if_pos (Int.natCast_nonneg n)]
  by_cases h : n < xs.length
  · rw [if_pos (by omega)]; rfl
  · rw [if_neg (by omega), List.getElem?_eq_none (by omega)]; rfl
theorem atI_int {γ : Type} (xs : List γ) {i : Int} (h0 : 0 ≤ i) : atI xs i = xs[i.toNat]? := by
  obtain ⟨n, rfl⟩ := Int.eq_ofNat_of_zero_le h0
  rw [atI_nat]; rfl
@[simp] theorem atI_0 {γ : Type} (xs : List γ) : atI xs 0 = xs[0]? := atI_nat xs 0
@[simp] theorem atI_1 {γ : Type} (xs : List γ) : atI xs 1 = xs[1]? := atI_nat xs 1
@[simp] theorem atI_2 {γ : Type} (xs : List γ) : atI xs 2 = xs[2]? := atI_nat xs 2
@[simp] theorem atI_3 {γ : Type} (xs : List γ) : atI xs 3 = xs[3]? := atI_nat xs 3
@[simp] theorem atI_4 {γ : Type} (xs : List γ) : atI xs 4 = xs[4]? := atI_nat xs 4
theorem atI_mem {γ : Type} {xs : List γ} {i : Int} (h0 : 0 ≤ i) (h1 : i < xs.length) : ∃ x, atI xs i = some x ∧ x ∈ xs := by
  rw [atI_int xs h0]
  have : i.toNat < xs.length := by omega
  exact ⟨xs[i.toNat], List.getElem?_eq_getElem this, List.getElem_mem this⟩
@[simp] theorem sl_str (s : List Char) (lo hi : Option Int) : wp (ofO (oSl (.str s) lo hi g)) Q' ↔ s.length ≤ LINE ∧ Q' (.str (cut s lo hi)) g := by
  show wp (ofO (if s.length ≤ LINE then _ else none)) Q' ↔ _
  split
  · rename_i h; exact ⟨fun q => ⟨h, q⟩, fun q => q.2⟩
  · rename_i h; exact ⟨fun q => q.elim, fun q => absurd q.1 h⟩
@[simp] theorem sl_tup (s : List D) (lo hi : Option Int) : oSl (.tup s) lo hi g = some (.tup (cut s lo hi), g) := rfl
theorem sl_ref {r : Nat} {ds : List D} (lo hi : Option Int) (h : lstOf (.ref r) g = some ds) : oSl (.ref r) lo hi g = some (newL (cut ds lo hi) g) := by unfold oSl; dsimp only; rw [h]; rfl
/-! ### built-ins -/
@[simp] theorem int_int (i : Int) : oInt (.int i) g = some (.int i) := rfl
@[simp] theorem int_bl (b : Bool) : oInt (.bl b) g = some (.int (b2i b)) := rfl
@[simp] theorem len_tup (ds : List D) : oLen (.tup ds) g = some (.int ds.length) := rfl
@[simp] theorem len_str (s : List Char) : oLen (.str s) g = if s.length ≤ LINE then some (.int s.length) else none := by
  unfold oLen lenD
  dsimp only
  split <;> rfl
theorem len_ref {r : Nat} {ds : List D} (h : lstOf (.ref r) g = some ds) : oLen (.ref r) g = some (.int ds.length) := by unfold oLen lenD; dsimp only; rw [h]; rfl
@[simp] theorem ord_1 (c : Char) : oOrd (.str [c]) g = some (.int c.toNat) := rfl
@[simp] theorem min_int (i j : Int) : oMin (.int i) (.int j) g = some (.int (if j < i then j else i)) := rfl
@[simp] theorem max_int (i j : Int) : oMax (.int i) (.int j) g = some (.int (if j > i then j else i)) := rfl
@[simp] theorem tuple_tup (ds : List D) : oTuple (.tup ds) g = some (.tup ds, g) := rfl
theorem tuple_ref {r : Nat} {ds : List D} (h : lstOf (.ref r) g = some ds) : oTuple (.ref r) g = some (.tup ds, g) := by unfold oTuple; rw [show seqOf (.ref r) g = some ds from h]; rfl
@[simp] theorem list_tup (ds : List D) : oList (.tup ds) g = some (newL ds g) := rfl
theorem list_ref {r : Nat} {ds : List D} (h : lstOf (.ref r) g = some ds) : oList (.ref r) g = some (newL ds g) := by unfold oList; rw [show seqOf (.ref r) g = some ds from h]; rfl
@[simp] theorem isi_def (t : Ty) (x : D) : oIsi t x g = (tyOf x g).map fun u => .bl (isTy t u) := rfl
@[simp] theorem ty_non : tyOf .non g = some none := rfl
@[simp] theorem ty_bl (b : Bool) : tyOf (.bl b) g = some (some .bool) := rfl
@[simp] theorem ty_int (b : Int) : tyOf (.int b) g = some (some .int) := rfl
@[simp] theorem ty_str (b : List Char) : tyOf (.str b) g = some (some .str) := rfl
@[simp] theorem ty_tup (b : List D) : tyOf (.tup b) g = some (some .tuple) := rfl
theorem ty_ref {r : Nat} {ds : List D} (h : lstOf (.ref r) g = some ds) : tyOf (.ref r) g = some (some .list) := by
  unfold lstOf at h
  unfold tyOf
  dsimp only at h ⊢
  split at h
  · rfl
  · rfl
  · cases h
theorem lstOf_lst {r : Nat} {ds : List D} (h : g[r]? = some (.lst ds)) : lstOf (.ref r) g = some ds := by unfold lstOf; dsimp only; rw [h]
theorem lstOf_frz {r : Nat} {ds : List D} (h : g[r]? = some (.frz ds)) : lstOf (.ref r) g = some ds := by unfold lstOf; dsimp only; rw [h]
theorem mutOf_lst {r : Nat} {ds : List D} (h : g[r]? = some (.lst ds)) : mutOf (.ref r) g = some (r, ds) := by unfold mutOf; dsimp only; rw [h]
theorem append_lst {r : Nat} {xs : List D} {y : D} (h : g[r]? = some (.lst xs)) : wp (ofO (oAppend (.ref r) y g)) Q' ↔ xs.length < LINE ∧ Q' .non (g.set r (.lst (xs ++ [y]))) := by
  unfold oAppend
  rw [mutOf_lst h]
  show wp (ofO (if xs.length < LINE then _ else none)) Q' ↔ _
  split
  · rename_i h; exact ⟨fun q => ⟨h, q⟩, fun q => q.2⟩
  · rename_i h; exact ⟨fun q => q.elim, fun q => absurd q.1 h⟩
/-! ### iterators -/
@[simp] theorem iter_tup (ds : List D) : iterOf (.tup ds) g = some (itL ds) := rfl
@[simp] theorem iter_str (s : List Char) : iterOf (.str s) g = some (itL (s.map fun c => .str [c])) := rfl
theorem iter_ref {r : Nat} {ds : List D} (h : lstOf (.ref r) g = some ds) : iterOf (.ref r) g = some (itR r ds.length) := by unfold iterOf; dsimp only; rw [h]; rfl
@[simp] theorem x_range1 (a : M) : iRange1 a ρ g = (a ρ g).bind fun x g1 => match x with
  | .int j => if -SMALL ≤ j ∧ j < SMALL then .ok (itL (rng 0 j.toNat)) g1 else .bad
  | _ => .bad := rfl
@[simp] theorem x_range2 (a b : M) : iRange2 a b ρ g = (a ρ g).bind fun x g1 => (b ρ g1).bind fun y g2 => match x, y with
  | .int i, .int j => if (-SMALL ≤ i ∧ i < SMALL) ∧ -SMALL ≤ j ∧ j < SMALL then .ok (itL (rng i (j - i).toNat)) g2 else .bad
  | _, _ => .bad := rfl
theorem rng_at {lo : Int} {n i : Nat} {d : D} (h : (rng lo n)[i]? = some d) : i < n ∧ d = .int (lo + i) := by
  unfold rng at h
  rw [List.getElem?_map, Option.map_eq_some_iff] at h
  obtain ⟨k, h1, rfl⟩ := h
  have := List.getElem?_eq_some_iff.mp h1
  obtain ⟨hl, e⟩ := this
  simp at hl e
  subst e
  exact ⟨hl, rfl⟩
@[simp] theorem rng_len (lo : Int) (n : Nat) : (rng lo n).length = n := by simp [rng]
/-! ### statements -/
@[simp] theorem wpS_next : wpS (.next ρ g) k = k.nx ρ g := rfl
@[simp] theorem wpS_ret (d : D) : wpS (.ret d g) k = k.rt d g := rfl
@[simp] theorem wpS_brk : wpS (.brk ρ g) k = k.bk ρ g := rfl
@[simp] theorem wpS_cont : wpS (.cont ρ g) k = k.ct ρ g := rfl
@[simp] theorem wpS_bad : wpS .bad k = False := rfl
@[simp] theorem wpS_exc (e : Exc) : wpS (.exc e ρ g) k = False := rfl
@[simp] theorem wpS_ite (c : Prop) [Decidable c] (x y : SR) : wpS (if c then x else y) k = if c then wpS x k else wpS y k := by split <;> rfl
@[simp] theorem wpS_onR (r : R α) (f : α → G → SR) : wpS (onR r ρ f) k = wp r fun a g => wpS (f a g) k := by cases r <;> rfl
/-- what follows, not looked into by simp -/
def lz (b : S) (ρ : Env) (g : G) (k : Kt) : Prop := wpS (b ρ g) k
@[simp] theorem y_seq (a b : S) : wpS (sSeq a b ρ g) k = wpS (a ρ g) { k with nx := fun ρ g => lz b ρ g k } := by
  unfold sSeq
  cases a ρ g <;> rfl
@[simp] theorem y_nil : sNil ρ g = .next ρ g := rfl
@[simp] theorem y_brk : sBreak ρ g = .brk ρ g := rfl
@[simp] theorem y_cont : sCont ρ g = .cont ρ g := rfl
@[simp] theorem y_expr (e : M) : sExpr e ρ g = onR (e ρ g) ρ fun _ g1 => .next ρ g1 := rfl
@[simp] theorem y_ret (e : M) : sRet e ρ g = onR (e ρ g) ρ fun d g1 => .ret d g1 := rfl
@[simp] theorem y_retN : sRetN ρ g = .ret .non g := rfl
@[simp] theorem y_if (t : T) (a b : S) : sIf t a b ρ g = onR (t ρ g) ρ fun c g1 => if c then a ρ g1 else b ρ g1 := rfl
@[simp] theorem y_asg (e : M) (i : Nat) : sAsg e (gName i) ρ g = onR (e ρ g) ρ fun d g1 => .next (ρ.set i (some d)) g1 := rfl
@[simp] theorem y_asgT (e : M) (t : Tgs) : wpS (sAsg e (gTup t) ρ g) k ↔ wp (e ρ g) fun d g1 => ∃ ρ', gTup t d ρ = some ρ' ∧ k.nx ρ' g1 := by
  unfold sAsg
  cases e ρ g with
  | ok d g1 =>
    show wpS (match gTup t d ρ with | some ρ1 => .next ρ1 g1 | none => .bad) k ↔ ∃ ρ', gTup t d ρ = some ρ' ∧ k.nx ρ' g1
    cases gTup t d ρ with
    | none => exact ⟨fun h => h.elim, fun ⟨_, h, _⟩ => by cases h⟩
    | some a => exact ⟨fun h => ⟨a, rfl, h⟩, fun ⟨_, h, q⟩ => by cases h; exact q⟩
  | exc e g1 => exact Iff.rfl
  | bad => exact Iff.rfl
@[simp] theorem g_tup_tup (t : Tgs) (ds : List D) : gTup t (.tup ds) ρ = t ds ρ := rfl
@[simp] theorem g_cons_cons (t : Tg) (u : Tgs) (d : D) (ds : List D) : gCons t u (d :: ds) ρ = (t d ρ).bind (u ds) := rfl
@[simp] theorem g_nil_nil : gNil [] ρ = some ρ := rfl
@[simp] theorem g_name_d (i : Nat) (d : D) : gName i d ρ = some (ρ.set i (some d)) := rfl
@[simp] theorem y_setI (o i e : M) : sSetI o i e ρ g = onR (e ρ g) ρ fun v g1 => onR (o ρ g1) ρ fun x g2 => onR (i ρ g2) ρ fun k g3 => match mutOf x g3, asI k with
  | some (r, xs), some k => match ix xs.length k with | some j => .next ρ (g3.set r (.lst (xs.set j v))) | none => .bad
  | _, _ => .bad := rfl
@[simp] theorem y_for (w : I) (t : Tg) (b : S) : sFor w t b ρ g = onR (w ρ g) ρ fun it g1 => forGo it.get t b (it.n + 1) 0 ρ g1 := rfl
@[simp] theorem wp_fn {n m : Nat} {b : S} {ds : List D} {Q : D → G → Prop} : wp (fn n m b ds g) Q = (ds.length = n ∧ wpS (b (ds.map some ++ List.replicate (m - n) none) g) ⟨fun _ g => Q .non g, Q, fun _ _ => False, fun _ _ => False⟩) := by
  unfold fn
  by_cases hl : ds.length = n
  · rw [if_pos hl]
    cases b (ds.map some ++ List.replicate (m - n) none) g <;> simp [hl]
  · rw [if_neg hl]
    simp [hl]
theorem wpS_imp {r : SR} {k' : Kt} (h : wpS r k') (h1 : ∀ ρ g, k'.nx ρ g → k.nx ρ g) (h2 : ∀ d g, k'.rt d g → k.rt d g) (h3 : ∀ ρ g, k'.bk ρ g → k.bk ρ g) (h4 : ∀ ρ g, k'.ct ρ g → k.ct ρ g) : wpS r k := by
  cases r with
  | next ρ g => exact h1 _ _ h
  | ret d g => exact h2 _ _ h
  | brk ρ g => exact h3 _ _ h
  | cont ρ g => exact h4 _ _ h
  | exc e ρ g => exact h
  | bad => exact h
/-! ### loops -/
/-- a loop by an invariant over the items taken; W: what is walked stands -/
theorem for_by {it : Nat → G → Option (Option D)} {ds : List D} {t : Tg} {b : S} (Inv : Nat → Env → G → Prop) (look : ∀ i ρ g, Inv i ρ g → it i g = some ds[i]?)
    (step : ∀ i d ρ g, ds[i]? = some d → Inv i ρ g → ∃ ρ1, t d ρ = some ρ1 ∧ wpS (b ρ1 g) ⟨Inv (i + 1), k.rt, k.nx, Inv (i + 1)⟩)
    (done : ∀ ρ g, Inv ds.length ρ g → k.nx ρ g) : ∀ n i ρ g, n + i = ds.length + 1 → i ≤ ds.length → Inv i ρ g → wpS (forGo it t b n i ρ g) k := by
  intro n
  induction n with
  | zero => intro i ρ g h hi inv; omega
  | succ n ih =>
    intro i ρ g h hi inv
    unfold forGo
    rw [look i ρ g inv]
    cases hd : ds[i]? with
    | none =>
      have : i = ds.length := by have := List.getElem?_eq_none_iff.mp hd; omega
      subst this
      exact done ρ g inv
    | some d =>
      obtain ⟨ρ1, e, q⟩ := step i d ρ g hd inv
      have hl := (List.getElem?_eq_some_iff.mp hd).1
      dsimp only
      rw [e]
      dsimp only
      cases hb : b ρ1 g with
      | next ρ2 g2 => rw [hb] at q; exact ih (i + 1) ρ2 g2 (by omega) (by omega) q
      | cont ρ2 g2 => rw [hb] at q; exact ih (i + 1) ρ2 g2 (by omega) (by omega) q
      | brk ρ2 g2 => rw [hb] at q; exact q
      | ret d2 g2 => rw [hb] at q; exact q
      | exc e ρ2 g2 => rw [hb] at q; exact q
      | bad => rw [hb] at q; exact q
theorem for_itL {ds : List D} {t : Tg} {b : S} (Inv : Nat → Env → G → Prop) (start : Inv 0 ρ g)
    (step : ∀ i d ρ g, ds[i]? = some d → Inv i ρ g → ∃ ρ1, t d ρ = some ρ1 ∧ wpS (b ρ1 g) ⟨Inv (i + 1), k.rt, k.nx, Inv (i + 1)⟩)
    (done : ∀ ρ g, Inv ds.length ρ g → k.nx ρ g) : wpS (forGo (itL ds).get t b ((itL ds).n + 1) 0 ρ g) k :=
  for_by Inv (fun _ _ _ _ => rfl) step done _ 0 ρ g rfl (Nat.zero_le _) start
theorem for_itR {r : Nat} {ds : List D} {t : Tg} {b : S} (Inv : Nat → Env → G → Prop) (start : Inv 0 ρ g) (look : ∀ i ρ g, Inv i ρ g → lstOf (.ref r) g = some ds)
    (step : ∀ i d ρ g, ds[i]? = some d → Inv i ρ g → ∃ ρ1, t d ρ = some ρ1 ∧ wpS (b ρ1 g) ⟨Inv (i + 1), k.rt, k.nx, Inv (i + 1)⟩)
    (done : ∀ ρ g, Inv ds.length ρ g → k.nx ρ g) : wpS (forGo (itR r ds.length).get t b ((itR r ds.length).n + 1) 0 ρ g) k :=
  for_by Inv (fun i ρ g inv => by show (lstOf (.ref r) g).map (fun xs => xs[i]?) = _; rw [look i ρ g inv]; rfl) step done _ 0 ρ g rfl (Nat.zero_le _) start
/-- a comprehension by an invariant over the items taken and the list so far (it stands at r) -/
theorem lc_by {it : Nat → G → Option (Option D)} {ds : List D} {t : Tg} {c : T} {e : M} {r : Nat} {Q : D → G → Prop} (Inv : Nat → List D → G → Prop) (look : ∀ i acc g, Inv i acc g → it i g = some ds[i]?) (at_ : ∀ i acc g, Inv i acc g → g[r]? = some (.lst acc))
    (step : ∀ i d acc g, ds[i]? = some d → Inv i acc g → ∃ ρ1, t d ρ = some ρ1 ∧ wp (c ρ1 g) fun b g1 => if b then wp (e ρ1 g1) fun y g2 => ∃ xs, g2[r]? = some (.lst xs) ∧ xs.length < LINE ∧ Inv (i + 1) (xs ++ [y]) (g2.set r (.lst (xs ++ [y]))) else Inv (i + 1) acc g1)
    (done : ∀ acc g, Inv ds.length acc g → Q (.ref r) g) : ∀ n i acc g, n + i = ds.length + 1 → i ≤ ds.length → Inv i acc g → wp (lcGo it t c e ρ r n i g) Q := by
  intro n
  induction n with
  | zero => intro i acc g h hi inv; omega
  | succ n ih =>
    intro i acc g h hi inv
    unfold lcGo
    rw [look i acc g inv]
    cases hd : ds[i]? with
    | none =>
      have : i = ds.length := by have := List.getElem?_eq_none_iff.mp hd; omega
      subst this
      exact done acc g inv
    | some d =>
      obtain ⟨ρ1, e1, q⟩ := step i d acc g hd inv
      have hl := (List.getElem?_eq_some_iff.mp hd).1
      dsimp only
      rw [e1]
      dsimp only
      cases hc : c ρ1 g with
      | exc e g2 => rw [hc] at q; exact q
      | bad => rw [hc] at q; exact q
      | ok b g1 =>
        rw [hc, wp_ok] at q
        cases b with
        | false => exact ih (i + 1) acc g1 (by omega) (by omega) q
        | true =>
          rw [if_pos rfl] at q
          dsimp only
          cases he : e ρ1 g1 with
          | exc e g2 => rw [he] at q; exact q
          | bad => rw [he] at q; exact q
          | ok y g2 =>
            rw [he, wp_ok] at q
            obtain ⟨xs, h1, h2, h3⟩ := q
            dsimp only
            rw [mutOf_lst h1]
            dsimp only
            rw [if_pos h2]
            exact ih (i + 1) _ _ (by omega) (by omega) h3
end
end Py
end

section
set_option autoImplicit false
set_option linter.all false
/-! Views, stores that grow. -/
namespace Py
theorem view_inv {g : G} {n : Nat} {v : D} {p : P} (h : view g n v = some p) : (v = .non ∧ p = .non) ∨ (∃ b, v = .bl b ∧ p = .bl b) ∨ (∃ i, v = .int i ∧ p = .int i) ∨ (∃ s, v = .str s ∧ p = .str s) ∨
    (∃ m ds ps, n = m + 1 ∧ v = .tup ds ∧ p = .tup ps ∧ viewL (view g m) ds = some ps) ∨ (∃ m r xs ps, n = m + 1 ∧ v = .ref r ∧ lstOf (.ref r) g = some xs ∧ p = .lst ps ∧ viewL (view g m) xs = some ps) := by
  cases v with
  | adr _ => simp [view] at h
  | non => simp [view] at h; simp [h]
  | bl b => simp [view] at h; simp [h]
  | int i => simp [view] at h; simp [h]
  | str s => simp [view] at h; simp [h]
  | tup ds =>
    cases n with
    | zero => simp [view] at h
    | succ n =>
      simp only [view, Option.map_eq_some_iff] at h
      obtain ⟨ps, h1, rfl⟩ := h
      exact .inr (.inr (.inr (.inr (.inl ⟨n, ds, ps, rfl, rfl, rfl, h1⟩))))
  | ref r =>
    cases n with
    | zero => simp [view] at h
    | succ n =>
      simp only [view] at h
      split at h
      · rename_i xs hx
        simp only [Option.map_eq_some_iff] at h
        obtain ⟨ps, h1, rfl⟩ := h
        exact .inr (.inr (.inr (.inr (.inr ⟨n, r, xs, ps, rfl, rfl, hx, rfl, h1⟩))))
      · cases h
theorem small_int {i : Int} (h0 : -1000000000000 ≤ i) (h : i ≤ 1000000000000) : -SMALL ≤ i ∧ i < SMALL := by rw [SMALL_is]; omega
theorem viewL_cons {f : D → Option P} {d : D} {ds : List D} {ps : List P} : viewL f (d :: ds) = some ps ↔ ∃ p qs, ps = p :: qs ∧ f d = some p ∧ viewL f ds = some qs := by
  constructor
  · intro h
    unfold viewL at h
    split at h
    · rename_i p qs h1 h2; cases h; exact ⟨p, qs, rfl, h1, h2⟩
    · cases h
  · rintro ⟨p, qs, rfl, h1, h2⟩
    unfold viewL
    rw [h1, h2]
theorem viewL_nil {f : D → Option P} {ps : List P} : viewL f [] = some ps ↔ ps = [] := by
  unfold viewL
  exact ⟨fun h => by cases h; rfl, fun h => by rw [h]⟩
theorem viewL_len {f : D → Option P} : ∀ {ds : List D} {ps : List P}, viewL f ds = some ps → ps.length = ds.length
  | [], ps, h => by rw [viewL_nil.mp h]; rfl
  | d :: ds, ps, h => by
    obtain ⟨p, qs, rfl, _, h2⟩ := viewL_cons.mp h
    simp [viewL_len h2]
theorem viewL_get {f : D → Option P} : ∀ {ds : List D} {ps : List P} {i : Nat} {d : D}, viewL f ds = some ps → ds[i]? = some d → ∃ p, ps[i]? = some p ∧ f d = some p
  | [], ps, i, d, h, e => by simp at e
  | x :: ds, ps, 0, d, h, e => by
    obtain ⟨p, qs, rfl, h1, h2⟩ := viewL_cons.mp h
    simp at e; subst e
    exact ⟨p, rfl, h1⟩
  | x :: ds, ps, i + 1, d, h, e => by
    obtain ⟨p, qs, rfl, h1, h2⟩ := viewL_cons.mp h
    obtain ⟨q, a, b⟩ := viewL_get (i := i) h2 (by simpa using e)
    exact ⟨q, by simpa using a, b⟩
theorem viewL_mono {f f' : D → Option P} (hf : ∀ d p, f d = some p → f' d = some p) : ∀ {ds : List D} {ps : List P}, viewL f ds = some ps → viewL f' ds = some ps
  | [], ps, h => h
  | d :: ds, ps, h => by
    obtain ⟨p, qs, rfl, h1, h2⟩ := viewL_cons.mp h
    exact viewL_cons.mpr ⟨p, qs, rfl, hf d p h1, viewL_mono hf h2⟩
theorem viewL_append {f : D → Option P} : ∀ {ds es : List D} {ps qs : List P}, viewL f ds = some ps → viewL f es = some qs → viewL f (ds ++ es) = some (ps ++ qs)
  | [], es, ps, qs, h, h' => by rw [viewL_nil.mp h]; exact h'
  | d :: ds, es, ps, qs, h, h' => by
    obtain ⟨p, qs', rfl, h1, h2⟩ := viewL_cons.mp h
    exact viewL_cons.mpr ⟨p, qs' ++ qs, rfl, h1, viewL_append h2 h'⟩
/-- what stood still stands -/
def Stay (g g' : G) : Prop := ∀ (i : Nat) (o : O), g[i]? = some o → g'[i]? = some o
theorem Stay.refl (g : G) : Stay g g := fun _ _ h => h
theorem Stay.trans {a b c : G} (x : Stay a b) (y : Stay b c) : Stay a c := fun i o h => y i o (x i o h)
theorem Stay.snoc (g : G) (o : O) : Stay g (g ++ [o]) := fun i x h => by rw [List.getElem?_append_left (List.getElem?_eq_some_iff.mp h).1]; exact h
theorem Stay.lst {g g' : G} (x : Stay g g') {d : D} {xs : List D} (h : lstOf d g = some xs) : lstOf d g' = some xs := by
  cases d with
  | ref r =>
    unfold lstOf at h ⊢
    dsimp only at h ⊢
    split at h
    · rename_i e; rw [x r _ e]; exact h
    · rename_i e; rw [x r _ e]; exact h
    · cases h
  | _ => cases h
theorem Stay.view {g g' : G} (x : Stay g g') : ∀ {n : Nat} {v : D} {p : P}, view g n v = some p → view g' n v = some p := by
  intro n
  induction n with
  | zero => intro v p h; cases v <;> simp [Py.view] at h ⊢ <;> exact h
  | succ n ih =>
    intro v p h
    rcases view_inv h with ⟨rfl, rfl⟩ | ⟨b, rfl, rfl⟩ | ⟨b, rfl, rfl⟩ | ⟨b, rfl, rfl⟩ | ⟨m, ds, ps, e, rfl, rfl, h1⟩ | ⟨m, r, xs, ps, e, rfl, hx, rfl, h1⟩
    · simp [Py.view]
    · simp [Py.view]
    · simp [Py.view]
    · simp [Py.view]
    · cases e; simp only [Py.view]; rw [viewL_mono (fun d p => ih) h1]; rfl
    · cases e; simp only [Py.view]; rw [x.lst hx]; dsimp only; rw [viewL_mono (fun d p => ih) h1]; rfl
theorem view_up {g : G} : ∀ {n m : Nat} {v : D} {p : P}, n ≤ m → view g n v = some p → view g m v = some p := by
  intro n
  induction n with
  | zero => intro m v p hm h; cases v <;> simp [Py.view] at h ⊢ <;> exact h
  | succ n ih =>
    intro m v p hm h
    obtain ⟨m, rfl⟩ : ∃ k, m = k + 1 := ⟨m - 1, by omega⟩
    rcases view_inv h with ⟨rfl, rfl⟩ | ⟨b, rfl, rfl⟩ | ⟨b, rfl, rfl⟩ | ⟨b, rfl, rfl⟩ | ⟨k, ds, ps, e, rfl, rfl, h1⟩ | ⟨k, r, xs, ps, e, rfl, hx, rfl, h1⟩
    · simp [Py.view]
    · simp [Py.view]
    · simp [Py.view]
    · simp [Py.view]
    · cases e; simp only [Py.view]; rw [viewL_mono (fun d p => ih (by omega)) h1]; rfl
    · cases e; simp only [Py.view]; rw [hx]; dsimp only; rw [viewL_mono (fun d p => ih (by omega)) h1]; rfl
/-- of what stood only ws may be written -/
structure Only (ws : List Nat) (g g' : G) : Prop where
  len : g.length ≤ g'.length
  keep : ∀ i : Nat, i < g.length → i ∉ ws → g'[i]? = g[i]?
section
variable {ws : List Nat} {a b c g g' : G}
theorem Only.refl (ws : List Nat) (g : G) : Only ws g g := ⟨Nat.le_refl _, fun _ _ _ => rfl⟩
theorem Only.trans (x : Only ws a b) (y : Only ws b c) : Only ws a c := ⟨Nat.le_trans x.len y.len, fun i h hw => (y.keep i (Nat.lt_of_lt_of_le h x.len) hw).trans (x.keep i h hw)⟩
theorem Only.mono {us : List Nat} (x : Only ws a b) (h : ∀ i ∈ ws, i ∈ us ∨ a.length ≤ i) : Only us a b := ⟨x.len, fun i hi hu => x.keep i hi fun hw => by
  rcases h i hw with z | z
  · exact hu z
  · omega⟩
/-- behind a step that may write us, the new ones too -/
theorem Only.then {us : List Nat} (x : Only ws a b) (y : Only us b c) (h : ∀ i ∈ us, i ∈ ws ∨ a.length ≤ i) : Only ws a c := ⟨Nat.le_trans x.len y.len, fun i hi hw => (y.keep i (Nat.lt_of_lt_of_le hi x.len) fun hu => by
  rcases h i hu with z | z
  · exact hw z
  · omega).trans (x.keep i hi hw)⟩
theorem Only.snoc (ws : List Nat) (g : G) (o : O) : Only ws g (g ++ [o]) := ⟨by simp, fun i h _ => List.getElem?_append_left h⟩
theorem Only.set {r : Nat} (h : r ∈ ws ∨ g.length ≤ r) (o : O) : Only ws g (g.set r o) := ⟨by simp, fun i hi hw => by
  by_cases e : r = i
  · subst e; rcases h with z | z
    · exact absurd z hw
    · omega
  · exact List.getElem?_set_ne e⟩
theorem Only.ext (x : Only [] g g') : Stay g g' := fun i o h => by rw [x.keep i (List.getElem?_eq_some_iff.mp h).1 (by simp)]; exact h
theorem Only.get {i : Nat} {o : O} (x : Only ws g g') (h : g[i]? = some o) (hw : i ∉ ws) : g'[i]? = some o := by rw [x.keep i (List.getElem?_eq_some_iff.mp h).1 hw]; exact h
theorem Only.lst {r : Nat} {xs : List D} (x : Only ws g g') (h : lstOf (.ref r) g = some xs) (hw : r ∉ ws) : lstOf (.ref r) g' = some xs := by
  unfold lstOf at h ⊢
  dsimp only at h ⊢
  split at h
  · rename_i e; rw [x.get e hw]; exact h
  · rename_i e; rw [x.get e hw]; exact h
  · cases h
theorem get_snoc (g : G) (o : O) : (g ++ [o])[g.length]? = some o := by simp
end
/-- a value's references all lie elsewhere than at ws -/
theorem eq_ok {α : Type} {r : R α} {a : α} {g : G} (h : wp r fun x g' => x = a ∧ g' = g) : r = .ok a g := by
  cases r with
  | ok x g' => obtain ⟨rfl, rfl⟩ := h; rfl
  | exc e g => exact h.elim
  | bad => exact h.elim
theorem wp_of {α : Type} {r : R α} {a : α} {g : G} {Q : α → G → Prop} (h : r = .ok a g) (q : Q a g) : wp r Q := by rw [h]; exact q
/-- a loop that looks at each item and leaves with False at the first bad one; the store stays -/
theorem look_all {ds : List D} {good : D → Bool} {i : Nat} {b : S} {ρ : Env} {g : G} {k : Kt}
    (turn : ∀ d, d ∈ ds → wpS (b (ρ.set i (some d)) g) ⟨fun ρ' g' => good d = true ∧ g' = g ∧ ρ' = ρ.set i (some d), fun x g' => good d = false ∧ x = .bl false ∧ g' = g, fun _ _ => False, fun ρ' g' => good d = true ∧ g' = g ∧ ρ' = ρ.set i (some d)⟩)
    (all : ds.all good = true → ∀ ρ', (ρ' = ρ ∨ ∃ d, ρ' = ρ.set i (some d)) → k.nx ρ' g) (bad : ds.all good = false → k.rt (.bl false) g) : wpS (forGo (itL ds).get (gName i) b ((itL ds).n + 1) 0 ρ g) k := by
  refine for_itL (fun j ρ' g' => g' = g ∧ (ρ' = ρ ∨ ∃ d, ρ' = ρ.set i (some d)) ∧ (ds.take j).all good = true) ⟨rfl, .inl rfl, by simp⟩ ?_ ?_
  · rintro j d ρ1 _ hd ⟨rfl, hρ, hg⟩
    have e : ρ1.set i (some d) = ρ.set i (some d) := by
      rcases hρ with rfl | ⟨d', rfl⟩
      · rfl
      · rw [List.set_set]
    refine ⟨ρ.set i (some d), by rw [← e]; rfl, wpS_imp (turn d (List.mem_of_getElem? hd)) ?_ ?_ (fun _ _ h => h.elim) ?_⟩
    · rintro ρ' g' ⟨h1, rfl, rfl⟩
      refine ⟨rfl, .inr ⟨d, rfl⟩, ?_⟩
      rw [List.take_add_one, hd]
      simp only [Option.toList_some, List.all_append, hg, List.all_cons, h1, List.all_nil, Bool.and_self]
    · rintro x g' ⟨h1, rfl, rfl⟩
      refine bad ?_
      rw [List.all_eq_false]
      exact ⟨d, List.mem_of_getElem? hd, by simp [h1]⟩
    · rintro ρ' g' ⟨h1, rfl, rfl⟩
      refine ⟨rfl, .inr ⟨d, rfl⟩, ?_⟩
      rw [List.take_add_one, hd]
      simp only [Option.toList_some, List.all_append, hg, List.all_cons, h1, List.all_nil, Bool.and_self]
  · rintro ρ' _ ⟨rfl, hρ, hg⟩
    rw [List.take_length] at hg
    exact all hg ρ' hρ
end Py
end

section
set_option autoImplicit false
set_option linter.all false
/-! Views that keep away from some places. -/
namespace Py
/-- as view; the places ws are not looked at -/
def vx (ws : List Nat) (g : G) : Nat → D → Option P
  | _, .non => some .non
  | _, .bl b => some (.bl b)
  | _, .int i => some (.int i)
  | _, .str s => some (.str s)
  | _, .adr _ => none
  | 0, .tup _ => none
  | 0, .ref _ => none
  | n + 1, .tup ds => (viewL (vx ws g n) ds).map .tup
  | n + 1, .ref r => if r ∈ ws then none else match lstOf (.ref r) g with | some xs => (viewL (vx ws g n) xs).map .lst | none => none
theorem vx_inv {ws : List Nat} {g : G} {n : Nat} {v : D} {p : P} (h : vx ws g n v = some p) : (v = .non ∧ p = .non) ∨ (∃ b, v = .bl b ∧ p = .bl b) ∨ (∃ i, v = .int i ∧ p = .int i) ∨ (∃ s, v = .str s ∧ p = .str s) ∨
    (∃ m ds ps, n = m + 1 ∧ v = .tup ds ∧ p = .tup ps ∧ viewL (vx ws g m) ds = some ps) ∨ (∃ m r xs ps, n = m + 1 ∧ v = .ref r ∧ r ∉ ws ∧ lstOf (.ref r) g = some xs ∧ p = .lst ps ∧ viewL (vx ws g m) xs = some ps) := by
  cases v with
  | adr _ => simp [vx] at h
  | non => simp [vx] at h; simp [h]
  | bl b => simp [vx] at h; simp [h]
  | int i => simp [vx] at h; simp [h]
  | str s => simp [vx] at h; simp [h]
  | tup ds =>
    cases n with
    | zero => simp [vx] at h
    | succ n =>
      simp only [vx, Option.map_eq_some_iff] at h
      obtain ⟨ps, h1, rfl⟩ := h
      exact .inr (.inr (.inr (.inr (.inl ⟨n, ds, ps, rfl, rfl, rfl, h1⟩))))
  | ref r =>
    cases n with
    | zero => simp [vx] at h
    | succ n =>
      simp only [vx] at h
      split at h
      · cases h
      rename_i hr
      split at h
      · rename_i xs hx
        simp only [Option.map_eq_some_iff] at h
        obtain ⟨ps, h1, rfl⟩ := h
        exact .inr (.inr (.inr (.inr (.inr ⟨n, r, xs, ps, rfl, rfl, hr, hx, rfl, h1⟩))))
      · cases h
theorem lstOf_len {g : G} {r : Nat} {xs : List D} (h : lstOf (.ref r) g = some xs) : r < g.length := by
  by_cases hr : r < g.length
  · exact hr
  · unfold lstOf at h
    dsimp only at h
    rw [List.getElem?_eq_none (by omega)] at h
    cases h
section
variable {ws us : List Nat} {g g' : G}
theorem vx_tup {n : Nat} {ds : List D} {ps : List P} (h : viewL (vx ws g n) ds = some ps) : vx ws g (n + 1) (.tup ds) = some (.tup ps) := by simp only [vx]; rw [h]; rfl
theorem vx_lst {n r : Nat} {ds : List D} {ps : List P} (hr : r ∉ ws) (h' : lstOf (.ref r) g = some ds) (h : viewL (vx ws g n) ds = some ps) : vx ws g (n + 1) (.ref r) = some (.lst ps) := by simp only [vx]; rw [if_neg hr, h']; dsimp only; rw [h]; rfl
/-- what was not looked at may be written; fresh places are never looked at -/
theorem vx_go (o : Only us g g') (hu : ∀ i ∈ us, i ∈ ws ∨ g.length ≤ i) {vs : List Nat} (hv : ∀ i ∈ vs, i ∈ ws ∨ g.length ≤ i) : ∀ {n : Nat} {v : D} {p : P}, vx ws g n v = some p → vx vs g' n v = some p := by
  intro n
  induction n with
  | zero => intro v p h; cases v <;> simp [vx] at h ⊢ <;> exact h
  | succ n ih =>
    intro v p h
    rcases vx_inv h with ⟨rfl, rfl⟩ | ⟨b, rfl, rfl⟩ | ⟨b, rfl, rfl⟩ | ⟨b, rfl, rfl⟩ | ⟨m, ds, ps, e, rfl, rfl, h1⟩ | ⟨m, r, xs, ps, e, rfl, hr, hx, rfl, h1⟩
    · simp [vx]
    · simp [vx]
    · simp [vx]
    · simp [vx]
    · cases e; exact vx_tup (viewL_mono (fun d p => ih) h1)
    · cases e
      have hl := lstOf_len hx
      refine vx_lst (fun hm => ?_) (o.lst hx fun hm => ?_) (viewL_mono (fun d p => ih) h1)
      · rcases hv _ hm with z | z
        · exact hr z
        · omega
      · rcases hu _ hm with z | z
        · exact hr z
        · omega
theorem vx_view : ∀ {n : Nat} {v : D} {p : P}, vx ws g n v = some p → view g n v = some p := by
  intro n
  induction n with
  | zero => intro v p h; cases v <;> simp [vx, view] at h ⊢ <;> exact h
  | succ n ih =>
    intro v p h
    rcases vx_inv h with ⟨rfl, rfl⟩ | ⟨b, rfl, rfl⟩ | ⟨b, rfl, rfl⟩ | ⟨b, rfl, rfl⟩ | ⟨m, ds, ps, e, rfl, rfl, h1⟩ | ⟨m, r, xs, ps, e, rfl, hr, hx, rfl, h1⟩
    · simp [view]
    · simp [view]
    · simp [view]
    · simp [view]
    · cases e; simp only [view]; rw [viewL_mono (fun d p => ih) h1]; rfl
    · cases e; simp only [view]; rw [hx]; dsimp only; rw [viewL_mono (fun d p => ih) h1]; rfl
theorem view_vx : ∀ {n : Nat} {v : D} {p : P}, view g n v = some p → vx [] g n v = some p := by
  intro n
  induction n with
  | zero => intro v p h; cases v <;> simp [vx, view] at h ⊢ <;> exact h
  | succ n ih =>
    intro v p h
    rcases view_inv h with ⟨rfl, rfl⟩ | ⟨b, rfl, rfl⟩ | ⟨b, rfl, rfl⟩ | ⟨b, rfl, rfl⟩ | ⟨m, ds, ps, e, rfl, rfl, h1⟩ | ⟨m, r, xs, ps, e, rfl, hx, rfl, h1⟩
    · simp [vx]
    · simp [vx]
    · simp [vx]
    · simp [vx]
    · cases e; exact vx_tup (viewL_mono (fun d p => ih) h1)
    · cases e; exact vx_lst (by simp) hx (viewL_mono (fun d p => ih) h1)
/-- a value without objects -/
theorem vx_free {n : Nat} {v : D} {p : P} (h : view [] n v = some p) : vx ws g n v = some p :=
  vx_go (us := []) ⟨Nat.zero_le _, fun i hi => by simp at hi⟩ (by simp) (by simp) (view_vx h)
theorem vx_up : ∀ {n m : Nat} {v : D} {p : P}, n ≤ m → vx ws g n v = some p → vx ws g m v = some p := by
  intro n
  induction n with
  | zero => intro m v p hm h; cases v <;> simp [vx] at h ⊢ <;> exact h
  | succ n ih =>
    intro m v p hm h
    obtain ⟨m, rfl⟩ : ∃ k, m = k + 1 := ⟨m - 1, by omega⟩
    rcases vx_inv h with ⟨rfl, rfl⟩ | ⟨b, rfl, rfl⟩ | ⟨b, rfl, rfl⟩ | ⟨b, rfl, rfl⟩ | ⟨k, ds, ps, e, rfl, rfl, h1⟩ | ⟨k, r, xs, ps, e, rfl, hr, hx, rfl, h1⟩
    · simp [vx]
    · simp [vx]
    · simp [vx]
    · simp [vx]
    · cases e; exact vx_tup (viewL_mono (fun d p => ih (by omega)) h1)
    · cases e; exact vx_lst hr hx (viewL_mono (fun d p => ih (by omega)) h1)
theorem viewL_ex {f : D → Option P} : ∀ {ds : List D}, (∀ d ∈ ds, ∃ p, f d = some p) → ∃ ps, viewL f ds = some ps
  | [], _ => ⟨[], rfl⟩
  | d :: ds, h => by
    obtain ⟨p, hp⟩ := h d (by simp)
    obtain ⟨ps, hps⟩ := viewL_ex (ds := ds) fun x hx => h x (by simp [hx])
    exact ⟨p :: ps, viewL_cons.mpr ⟨p, ps, rfl, hp, hps⟩⟩
theorem viewL_mem {f : D → Option P} {ds : List D} {ps : List P} {d : D} (h : viewL f ds = some ps) (hd : d ∈ ds) : ∃ p ∈ ps, f d = some p := by
  obtain ⟨i, hi⟩ := List.mem_iff_getElem?.mp hd
  obtain ⟨p, h1, h2⟩ := viewL_get h hi
  exact ⟨p, List.mem_of_getElem? h1, h2⟩
theorem viewL_memP {f : D → Option P} {ds : List D} {ps : List P} {p : P} (h : viewL f ds = some ps) (hp : p ∈ ps) : ∃ d ∈ ds, f d = some p := by
  obtain ⟨i, hi⟩ := List.mem_iff_getElem?.mp hp
  have hl := viewL_len h
  have h1 := (List.getElem?_eq_some_iff.mp hi).1
  obtain ⟨q, h2, h3⟩ := viewL_get h (List.getElem?_eq_getElem (l := ds) (i := i) (by omega))
  rw [hi] at h2
  cases h2
  exact ⟨_, List.getElem_mem _, h3⟩
theorem viewL_snoc {f : D → Option P} {ds : List D} {ps : List P} {d : D} {p : P} (h : viewL f ds = some ps) (hd : f d = some p) : viewL f (ds ++ [d]) = some (ps ++ [p]) :=
  viewL_append h (viewL_cons.mpr ⟨p, [], rfl, hd, rfl⟩)
end
end Py
end

section
set_option autoImplicit false
set_option linter.all false
/-! Reasoning about exceptions. -/
namespace Py
section
variable {α : Type} {ρ : Env} {g g0 : G} {fs : List (String × D)} {cl : String → Option Bool} {i r a b : Nat} {e : Exc}
theorem ret_of {s : SR} {d : D} (h : wpS s ⟨fun _ _ => False, fun d' g' => d' = d ∧ g' = g, fun _ _ => False, fun _ _ => False⟩) : s = .ret d g := by
  cases s <;> first | exact h.elim | (obtain ⟨rfl, rfl⟩ := h; rfl)
theorem try_exc {body : S} {su : Exc → Nat → Nat → S} {ρ1 : Env} {g1 : G} {s : SR} (hb : body ρ g = .exc e ρ1 g1) (hc : cl e.cls = some true)
    (hs : ∀ a b, (su e a b (ρ1.set i (some (.adr a))) (pinX e.at_ b g1)).clean i e.at_ = s) : sTryAs body cl i su ρ g = s := by
  unfold sTryAs
  rw [hb]
  dsimp only
  rw [hc]
  dsimp only
  exact same_for_eq hs
theorem try_next {body : S} {su : Exc → Nat → Nat → S} {ρ1 : Env} {g1 : G} (hb : body ρ g = .next ρ1 g1) : sTryAs body cl i su ρ g = .next ρ1 g1 := by
  unfold sTryAs
  rw [hb]
@[simp] theorem pin_last : pinX (some g0.length) b (g0 ++ [.xd fs]) = g0 ++ [.xda b fs] := by simp [pinX]
@[simp] theorem unpin_last : unpinX (some g0.length) (g0 ++ [.xda b fs]) = g0 ++ [.xd fs] := by simp [unpinX]
/-- a try around x = f(..) whose call raised, the suite answering at once: fields at the store's end -/
theorem try_ret {body : S} {su : Exc → Nat → Nat → S} {c : String} {d : D} (hb : body ρ g = .exc ⟨c, some g0.length⟩ ρ (g0 ++ [.xd fs])) (hc : cl c = some true)
    (hs : ∀ a b, wpS (su ⟨c, some g0.length⟩ a b (ρ.set i (some (.adr a))) (g0 ++ [.xda b fs])) ⟨fun _ _ => False, fun d' g' => d' = d ∧ g' = g0 ++ [.xda b fs], fun _ _ => False, fun _ _ => False⟩) :
    sTryAs body cl i su ρ g = .ret d (g0 ++ [.xd fs]) := by
  refine try_exc hb hc fun a b => ?_
  have := ret_of (hs a b)
  simp only [pin_last]
  rw [this]
  simp [SR.clean]
theorem isE_at (h : ρ[i]? = some (some (.adr a))) {c : String} : mIsE cl i ⟨c, some g0.length⟩ a b ρ (g0 ++ [.xda b fs]) = ofP ((cl c).map .bl) (g0 ++ [.xda b fs]) := by
  unfold mIsE
  rw [h]
  simp
theorem fldE_at (h : ρ[i]? = some (some (.adr a))) {c f : String} {cs : List String} (hc : cs.contains c = true) : mFldC cs f i ⟨c, some g0.length⟩ a b ρ (g0 ++ [.xda b fs]) = ofP (fs.lookup f) (g0 ++ [.xda b fs]) := by
  unfold mFldC mFldE
  rw [if_pos hc, h]
  simp
/-- what a call may do: answer; raise -/
theorem asg_next {m : M} {t : Tg} {d : D} {g1 : G} {ρ1 : Env} (h : m ρ g = .ok d g1) (ht : t d ρ = some ρ1) : sAsg m t ρ g = .next ρ1 g1 := by
  unfold sAsg onR
  rw [h]
  dsimp only
  rw [ht]
theorem asg_exc {m : M} {t : Tg} {g1 : G} (h : m ρ g = .exc e g1) : sAsg m t ρ g = .exc e ρ g1 := by
  unfold sAsg onR
  rw [h]
theorem seq_next {s t : S} {ρ1 : Env} {g1 : G} (h : s ρ g = .next ρ1 g1) : sSeq s t ρ g = t ρ1 g1 := by
  unfold sSeq
  rw [h]
theorem seq_exc {s t : S} {ρ1 : Env} {g1 : G} (h : s ρ g = .exc e ρ1 g1) : sSeq s t ρ g = .exc e ρ1 g1 := by
  unfold sSeq
  rw [h]
theorem seq_ret {s t : S} {d : D} {g1 : G} (h : s ρ g = .ret d g1) : sSeq s t ρ g = .ret d g1 := by
  unfold sSeq
  rw [h]
theorem wp_ok_of {r : R α} {Q : α → G → Prop} (h : wp r Q) : ∃ x g', r = .ok x g' ∧ Q x g' := by
  cases r with
  | ok x g' => exact ⟨x, g', rfl, h⟩
  | exc _ _ => exact h.elim
  | bad => exact h.elim
/-- what a comprehension keeps of its items -/
def filmap (keep : Nat → D → Option D) : Nat → List D → List D
  | _, [] => []
  | i, d :: r => match keep i d with | some y => y :: filmap keep (i + 1) r | none => filmap keep (i + 1) r
/-- a comprehension that only looks -/
theorem lc_fil {it : Nat → G → Option (Option D)} {ds : List D} {t : Tg} {c : T} {e : M} (keep : Nat → D → Option D) (look : ∀ i acc, it i (g0 ++ [.lst acc]) = some ds[i]?) (hl : ds.length < LINE)
    (step : ∀ i d acc, ds[i]? = some d → ∃ ρ1, t d ρ = some ρ1 ∧ wp (c ρ1 (g0 ++ [.lst acc])) fun q g1 => g1 = g0 ++ [.lst acc] ∧ q = (keep i d).isSome ∧ (q = true → wp (e ρ1 (g0 ++ [.lst acc])) fun y g2 => g2 = g0 ++ [.lst acc] ∧ keep i d = some y)) :
    lcGo it t c e ρ g0.length (ds.length + 1) 0 (g0 ++ [.lst []]) = .ok (.ref g0.length) (g0 ++ [.lst (filmap keep 0 ds)]) := by
  apply eq_ok
  refine lc_by (fun i acc g => g = g0 ++ [.lst acc] ∧ acc ++ filmap keep i (ds.drop i) = filmap keep 0 ds ∧ acc.length ≤ i) (fun i acc g h => by rw [h.1]; exact look i acc) (fun i acc g h => by rw [h.1]; exact get_snoc _ _) ?_ ?_ _ 0 [] _ rfl (Nat.zero_le _) ⟨rfl, by simp, by simp⟩
  · rintro i d acc _ hd ⟨rfl, h1, h2⟩
    obtain ⟨ρ1, e1, e2⟩ := step i d acc hd
    refine ⟨ρ1, e1, wp_imp e2 ?_⟩
    rintro q _ ⟨rfl, h3, h4⟩
    have hi := (List.getElem?_eq_some_iff.mp hd).1
    have hdr : ds.drop i = d :: ds.drop (i + 1) := by
      rw [List.drop_eq_getElem_cons hi]
      rw [List.getElem?_eq_getElem hi] at hd
      cases hd; rfl
    rw [hdr] at h1
    cases q with
    | true =>
      rw [if_pos rfl]
      refine wp_imp (h4 rfl) ?_
      rintro y _ ⟨rfl, h5⟩
      refine ⟨acc, get_snoc _ _, by omega, by simp, ?_, by simp; omega⟩
      rw [← h1]
      simp [filmap, h5]
    | false =>
      rw [if_neg (by simp)]
      refine ⟨rfl, ?_, by omega⟩
      rw [← h1]
      cases hk : keep i d with
      | some y => rw [hk] at h3; simp at h3
      | none => simp [filmap, hk]
  · rintro acc _ ⟨rfl, h1, h2⟩
    simp [filmap] at h1
    rw [h1]
    exact ⟨rfl, rfl⟩
end
/-- enumerate -/
def pairs : Nat → List D → List D
  | _, [] => []
  | i, d :: r => .tup [.int i, d] :: pairs (i + 1) r
theorem pairs_get : ∀ (ds : List D) (k i : Nat), (pairs k ds)[i]? = ds[i]?.map fun d => .tup [.int ((k + i : Nat) : Int), d]
  | [], k, i => by simp [pairs]
  | d :: r, k, 0 => by simp [pairs]
  | d :: r, k, i + 1 => by
    simp only [pairs, List.getElem?_cons_succ]
    rw [pairs_get r (k + 1) i]
    have : k + 1 + i = k + (i + 1) := by omega
    rw [this]
theorem pairs_len : ∀ (ds : List D) (k : Nat), (pairs k ds).length = ds.length
  | [], _ => rfl
  | d :: r, k => by simp [pairs, pairs_len r]
@[simp] theorem x_enum {a : M} {ρ : Env} {g : G} : iEnum a ρ g = (a ρ g).bind fun x g1 => match x with | .str _ => .bad | x => ofP ((iterOf x g1).map itEn) g1 := rfl
theorem itEn_get (ds : List D) (i : Nat) (g : G) : (itEn (itL ds)).get i g = some (pairs 0 ds)[i]? := by
  rw [pairs_get]
  simp [itEn, itL]
theorem itEn_n (ds : List D) : (itEn (itL ds)).n = (pairs 0 ds).length := by rw [pairs_len]; rfl
end Py
end

section
set_option linter.all false
set_option autoImplicit false
/-! The start: a script. -/
namespace Py
open PySem L2
theorem reps_int {K : PySem.W.Frag} {H : Hp} {ι : List Addr} : ∀ (ns : List Int), Reps K H ι (ns.map .int) (ns.map V.int)
  | [] => .nil
  | i :: r => .cons (.int i) (reps_int r)
theorem frz_only {K : PySem.W.Frag} {H : Hp} {a : Addr} {xs : List V} (hO : L2.Only H) (hS : SqL K H a xs) : FrzL K H a xs := by
  rcases hS with (h | ⟨o, h⟩) | h
  · rcases hO a with e | ⟨o, ys, e⟩
    · rw [e] at h; cases h
    · rw [e] at h; cases h
  · exact .inl ⟨o, h⟩
  · exact .inr h
theorem start_sp {K : PySem.W.Frag} {mg : Str → Option Value} {f : F} {H : Hp} {a : Addr} {is : List Int} (hO : L2.Only H) (hS : SqL K H a (is.map V.int)) (h : wp (f [.ref 0] [.frz (is.map .int)]) fun v _ => v = .bl true) :
    spF K mg 1 f [.ref a] H (fun v _ => v = .bl true) fun _ _ _ => False := by
  refine ⟨[.ref 0], [.frz (is.map .int)], [a], ⟨rfl, ?_, ?_⟩, .cons (.ref rfl) .nil, rfl, ?_⟩
  · intro r o b h1 h2
    cases r with
    | zero =>
      simp at h1 h2
      subst h1 h2
      exact ⟨_, frz_only hO hS, reps_int is⟩
    | succ r => simp at h1
  · intro r r' b xs xs' h1 h2 h3 h4
    cases r with
    | zero => simp at h3
    | succ r => simp at h3
  · cases hf : f [.ref 0] [.frz (is.map .int)] with
    | ok v g =>
      rw [hf, wp_ok] at h
      subst h
      intro H' ι' x s v r
      cases r
      rfl
    | exc e g => rw [hf] at h; exact h.elim
    | bad => rw [hf] at h; exact h.elim
end Py
end

section
set_option autoImplicit false
set_option linter.all false
/-! The program of the law as combinators; printed by genx.py. -/
namespace K01
noncomputable section
open Py
def lit_0 : List Char := ['a', 'b', 'c', 'd', 'e', 'f', 'g', 'h', 'i', 'j', 'k', 'l', 'm', 'n', 'o', 'p', 'q', 'r', 's', 't', 'u', 'v', 'w', 'x', 'y', 'z']
def lit_1 : List Char := [' ', '!', '#', '$', '&', '(', ')', '*', '+', '-', '.', '/', '0', '1', '5', '9', ':', ';', '<', '=', '>', '?', '@', 'A', 'B', 'M', 'Y', 'Z', '[', ']', '^', '_', 'a', 'b', 'c', 'm', 'y', 'z', '{', '|', '}', '~', '\n', '\t']
def lit_2 : List Char := ['a', 'b', 'c', 'd', 'e', 'f', 'g', 'h', 'i']
def lit_3 : List Char := ['u', 'n', 'k', 'n', 'o', 'w', 'n', ' ', 'p', 'e', 'r', 's', 'o', 'n']
def lit_4 : List Char := ['u', 'n', 'k', 'n', 'o', 'w', 'n', ' ', 'r', 'o', 'o', 'm']
def is_BadHouse : String → Option Bool := clT [("BadHouse", true), ("UnknownPerson", false), ("UnknownRoom", false)]
@[simp] theorem is_BadHouse_BadHouse : is_BadHouse "BadHouse" = some true := by simp [is_BadHouse, clT, List.lookup]
@[simp] theorem is_BadHouse_UnknownPerson : is_BadHouse "UnknownPerson" = some false := by simp [is_BadHouse, clT, List.lookup]
@[simp] theorem is_BadHouse_UnknownRoom : is_BadHouse "UnknownRoom" = some false := by simp [is_BadHouse, clT, List.lookup]
def ex_HearsayError : String → Option Bool := clT [("BadHouse", true), ("UnknownPerson", true), ("UnknownRoom", true)]
@[simp] theorem ex_HearsayError_BadHouse : ex_HearsayError "BadHouse" = some true := by simp [ex_HearsayError, clT, List.lookup]
@[simp] theorem ex_HearsayError_UnknownPerson : ex_HearsayError "UnknownPerson" = some true := by simp [ex_HearsayError, clT, List.lookup]
@[simp] theorem ex_HearsayError_UnknownRoom : ex_HearsayError "UnknownRoom" = some true := by simp [ex_HearsayError, clT, List.lookup]
def is_UnknownPerson : String → Option Bool := clT [("BadHouse", false), ("UnknownPerson", true), ("UnknownRoom", false)]
@[simp] theorem is_UnknownPerson_BadHouse : is_UnknownPerson "BadHouse" = some false := by simp [is_UnknownPerson, clT, List.lookup]
@[simp] theorem is_UnknownPerson_UnknownPerson : is_UnknownPerson "UnknownPerson" = some true := by simp [is_UnknownPerson, clT, List.lookup]
@[simp] theorem is_UnknownPerson_UnknownRoom : is_UnknownPerson "UnknownRoom" = some false := by simp [is_UnknownPerson, clT, List.lookup]
def is_UnknownRoom : String → Option Bool := clT [("BadHouse", false), ("UnknownPerson", false), ("UnknownRoom", true)]
@[simp] theorem is_UnknownRoom_BadHouse : is_UnknownRoom "BadHouse" = some false := by simp [is_UnknownRoom, clT, List.lookup]
@[simp] theorem is_UnknownRoom_UnknownPerson : is_UnknownRoom "UnknownPerson" = some false := by simp [is_UnknownRoom, clT, List.lookup]
@[simp] theorem is_UnknownRoom_UnknownRoom : is_UnknownRoom "UnknownRoom" = some true := by simp [is_UnknownRoom, clT, List.lookup]
def is_ValueError : String → Option Bool := clT [("BadHouse", true), ("UnknownPerson", true), ("UnknownRoom", true)]
@[simp] theorem is_ValueError_BadHouse : is_ValueError "BadHouse" = some true := by simp [is_ValueError, clT, List.lookup]
@[simp] theorem is_ValueError_UnknownPerson : is_ValueError "UnknownPerson" = some true := by simp [is_ValueError, clT, List.lookup]
@[simp] theorem is_ValueError_UnknownRoom : is_ValueError "UnknownRoom" = some true := by simp [is_ValueError, clT, List.lookup]
abbrev fl_person : List String := ["UnknownPerson"]
abbrev fl_place : List String := ["BadHouse"]
abbrev fl_room : List String := ["UnknownRoom"]
abbrev w1_is_word : S := sIf (tVal (mOp (p2 oNotIn) (mVar 1) (mC (.str lit_0)))) (sRet (mC (.bl false))) (sNil)
abbrev q1_is_word : S := sRet (mC (.bl true))
abbrev q2_is_word : S := sSeq (sFor (iAny (mVar 0)) (gName 1) w1_is_word) q1_is_word
def b_is_word : S := sSeq (sIf (tOr (tNot (tVal (mUn (p1 (oIsi .str)) (mVar 0)))) (tNot (tVal (mChain oLe oLe (mC (.int 1)) (mUn (p1 oLen) (mVar 0)) (mC (.int 8)))))) (sRet (mC (.bl false))) (sNil)) q2_is_word
def f_is_word : F := fn 1 2 b_is_word
abbrev w1_good_owners : S := sIf (tNot (tVal (mCall f_is_word (mCons (mVar 1) (mNil))))) (sRet (mC (.bl false))) (sNil)
abbrev q1_good_owners : S := sRet (mC (.bl true))
abbrev q2_good_owners : S := sSeq (sFor (iAny (mVar 0)) (gName 1) w1_good_owners) q1_good_owners
def b_good_owners : S := sSeq (sIf (tOr (tNot (tVal (mUn (p1 (oIsi .tuple)) (mVar 0)))) (tNot (tVal (mChain oLe oLe (mC (.int 1)) (mUn (p1 oLen) (mVar 0)) (mC (.int 8)))))) (sRet (mC (.bl false))) (sNil)) q2_good_owners
def f_good_owners : F := fn 1 2 b_good_owners
abbrev q1_good_rooms : S := sExpr (mApp (mVar 2) (mVar 4))
abbrev q2_good_rooms : S := sSeq (sIf (tOr (tNot (tVal (mUn (p1 (oIsi .str)) (mVar 5)))) (tAnd (tVal (mOp (p2 oNe) (mVar 5) (mC (.str [])))) (tVal (mOp (p2 oNotIn) (mVar 5) (mVar 0))))) (sRet (mC (.bl false))) (sNil)) q1_good_rooms
abbrev q3_good_rooms : S := sSeq (sIf (tOr (tNot (tVal (mCall f_is_word (mCons (mVar 4) (mNil))))) (tVal (mOp (p2 oIn) (mVar 4) (mVar 2)))) (sRet (mC (.bl false))) (sNil)) q2_good_rooms
abbrev q4_good_rooms : S := sSeq (sAsg (mVar 3) (gTup (gCons (gName 4) (gCons (gName 5) (gNil))))) q3_good_rooms
abbrev w1_good_rooms : S := sSeq (sIf (tOr (tNot (tVal (mUn (p1 (oIsi .tuple)) (mVar 3)))) (tVal (mOp (p2 oNe) (mUn (p1 oLen) (mVar 3)) (mC (.int 2))))) (sRet (mC (.bl false))) (sNil)) q4_good_rooms
abbrev q5_good_rooms : S := sRet (mC (.bl true))
abbrev q6_good_rooms : S := sSeq (sFor (iAny (mVar 1)) (gName 3) w1_good_rooms) q5_good_rooms
abbrev q7_good_rooms : S := sSeq (sAsg (mLst (mNil)) (gName 2)) q6_good_rooms
def b_good_rooms : S := sSeq (sIf (tOr (tNot (tVal (mUn (p1 (oIsi .tuple)) (mVar 1)))) (tNot (tVal (mChain oLe oLe (mC (.int 1)) (mUn (p1 oLen) (mVar 1)) (mC (.int 6)))))) (sRet (mC (.bl false))) (sNil)) q7_good_rooms
def f_good_rooms : F := fn 2 6 b_good_rooms
abbrev q1_check_house : S := sIf (tNot (tVal (mCall f_good_rooms (mCons (mVar 1) (mCons (mVar 2) (mNil)))))) (sRaise "BadHouse" ["place"] (mCons (mC (.int 1)) (mNil))) (sNil)
abbrev q2_check_house : S := sSeq (sIf (tNot (tVal (mCall f_good_owners (mCons (mVar 1) (mNil))))) (sRaise "BadHouse" ["place"] (mCons (mC (.int 0)) (mNil))) (sNil)) q1_check_house
def b_check_house : S := sSeq (sAsg (mVar 0) (gTup (gCons (gName 1) (gCons (gName 2) (gNil))))) q2_check_house
def f_check_house : F := fn 1 3 b_check_house
def b_people : S := sRet (mUn oSortSet (mOp (p2 oIdx) (mVar 0) (mC (.int 0))))
def f_people : F := fn 1 1 b_people
abbrev q1_devices_of : S := sRet (mVar 2)
abbrev q2_devices_of : S := sSeq (sIf (tNot (tTru (mVar 2))) (sRaise "UnknownPerson" ["person"] (mCons (mVar 1) (mNil))) (sNil)) q1_devices_of
def b_devices_of : S := sSeq (sAsg (mLc (iEnum (mOp (p2 oIdx) (mVar 0) (mC (.int 0)))) (gTup (gCons (gName 3) (gCons (gName 4) (gNil)))) (tVal (mOp (p2 oEq) (mVar 4) (mVar 1))) (mVar 3) [3, 4]) (gName 2)) q2_devices_of
def f_devices_of : F := fn 2 5 b_devices_of
def b_room_names : S := sRet (mLc (iAny (mOp (p2 oIdx) (mVar 0) (mC (.int 1)))) (gName 1) (tYes) (mOp (p2 oIdx) (mVar 1) (mC (.int 0))) [1])
def f_room_names : F := fn 1 2 b_room_names
abbrev w1_keeper_of : S := sIf (tVal (mOp (p2 oEq) (mVar 2) (mVar 1))) (sRet (mVar 3)) (sNil)
abbrev q1_keeper_of : S := sRaise "UnknownRoom" ["room"] (mCons (mVar 1) (mNil))
def b_keeper_of : S := sSeq (sFor (iAny (mOp (p2 oIdx) (mVar 0) (mC (.int 1)))) (gTup (gCons (gName 2) (gCons (gName 3) (gNil)))) w1_keeper_of) q1_keeper_of
def f_keeper_of : F := fn 2 4 b_keeper_of
abbrev q1_droppers : S := sRet (mLc (iEnum (mOp (p2 oIdx) (mVar 0) (mC (.int 0)))) (gTup (gCons (gName 4) (gCons (gName 5) (gNil)))) (tVal (mOp (p2 oIn) (mVar 5) (mTup (mCons (mVar 2) (mCons (mVar 3) (mNil)))))) (mVar 4) [4, 5])
abbrev q2_droppers : S := sSeq (sExpr (mCall f_devices_of (mCons (mVar 0) (mCons (mVar 2) (mNil))))) q1_droppers
def b_droppers : S := sSeq (sAsg (mCall f_keeper_of (mCons (mVar 0) (mCons (mVar 1) (mNil)))) (gName 3)) q2_droppers
def f_droppers : F := fn 3 6 b_droppers
abbrev w1__law_seed : S := sAsg (mOp oMod (mUn (p1 oInt) (mOp oAdd (mOp oAdd (mOp oMul (mVar 1) (mC (.int 48271))) (mOp oMod (mUn (p1 oInt) (mOp (p2 oIdx) (mVar 0) (mVar 2))) (mC (.int 2147483629)))) (mVar 2))) (mC (.int 2147483647))) (gName 1)
abbrev q1__law_seed : S := sRet (mVar 1)
abbrev q2__law_seed : S := sSeq (sFor (iRange1 (mOp (p2 oMin) (mUn (p1 oLen) (mVar 0)) (mC (.int 63)))) (gName 2) w1__law_seed) q1__law_seed
def b__law_seed : S := sSeq (sAsg (mC (.int 17)) (gName 1)) q2__law_seed
def f__law_seed : F := fn 1 3 b__law_seed
abbrev q1__law_source : S := sRet (mLst (mCons (mVar 2) (mCons (mVar 4) (mNil))))
abbrev q2__law_source : S := sSeq (sAsg (mOp oMod (mUn (p1 oInt) (mOp oMul (mOp oAdd (mVar 3) (mOp oMul (mVar 1) (mC (.int 7919)))) (mOp oAdd (mOp oAdd (mOp oFdiv (mVar 3) (mC (.int 7))) (mOp oMul (mVar 1) (mC (.int 104729)))) (mC (.int 1))))) (mC (.int 2147483647))) (gName 4)) q1__law_source
abbrev q3__law_source : S := sSeq (sAsg (mCall f__law_seed (mCons (mVar 0) (mNil))) (gName 3)) q2__law_source
abbrev q4__law_source : S := sSeq (sIf (tVal (mOp (p2 oLt) (mVar 1) (mUn (p1 oLen) (mVar 0)))) (sAsg (mOp oMod (mUn (p1 oInt) (mOp (p2 oIdx) (mVar 0) (mVar 1))) (mOp oPow (mOp oPow (mC (.int 10)) (mC (.int 60))) (mC (.int 6)))) (gName 2)) (sNil)) q3__law_source
def b__law_source : S := sSeq (sAsg (mC (.int 0)) (gName 2)) q4__law_source
def f__law_source : F := fn 2 5 b__law_source
abbrev q1__law_take : S := sRet (mOp oMod (mUn (p1 oInt) (mOp oFdiv (mOp (p2 oIdx) (mVar 0) (mC (.int 1))) (mC (.int 16)))) (mVar 1))
abbrev q2__law_take : S := sRet (mVar 2)
abbrev q3__law_take : S := sSeq (sSetI (mVar 0) (mC (.int 0)) (mOp oFdiv (mOp (p2 oIdx) (mVar 0) (mC (.int 0))) (mVar 1))) q2__law_take
abbrev q4__law_take : S := sSeq (sAsg (mOp oMod (mUn (p1 oInt) (mOp (p2 oIdx) (mVar 0) (mC (.int 0)))) (mVar 1)) (gName 2)) q3__law_take
def b__law_take : S := sSeq (sIf (tVal (mOp (p2 oEq) (mOp (p2 oIdx) (mVar 0) (mC (.int 0))) (mC (.int 0)))) (sSeq (sSetI (mVar 0) (mC (.int 1)) (mOp oMod (mUn (p1 oInt) (mOp oAdd (mOp oMul (mOp (p2 oIdx) (mVar 0) (mC (.int 1))) (mC (.int 69621))) (mC (.int 12345)))) (mC (.int 2147483647)))) q1__law_take) (sNil)) q4__law_take
def f__law_take : F := fn 2 3 b__law_take
abbrev q1__law_word : S := sRet (mOp oAdd (mOp oAdd (mSl (mVar 3) none (some (mVar 4))) (mOp (p2 oIdx) (mVar 2) (mCall f__law_take (mCons (mVar 0) (mCons (mC (.int 26)) (mNil)))))) (mSl (mVar 3) (some (mOp oAdd (mVar 4) (mC (.int 1)))) none))
abbrev q2__law_word : S := sSeq (sAsg (mCall f__law_take (mCons (mVar 0) (mCons (mUn (p1 oLen) (mVar 3)) (mNil)))) (gName 4)) q1__law_word
abbrev w1__law_word : S := sAsg (mOp oAdd (mVar 5) (mOp (p2 oIdx) (mVar 2) (mCall f__law_take (mCons (mVar 0) (mCons (mC (.int 26)) (mNil)))))) (gName 5)
abbrev q3__law_word : S := sRet (mVar 5)
abbrev q4__law_word : S := sSeq (sFor (iRange1 (mOp oAdd (mC (.int 1)) (mCall f__law_take (mCons (mVar 0) (mCons (mC (.int 8)) (mNil)))))) (gName 6) w1__law_word) q3__law_word
abbrev q5__law_word : S := sSeq (sAsg (mC (.str [])) (gName 5)) q4__law_word
abbrev q6__law_word : S := sSeq (sIf (tAnd (tVal (mOp (p2 oGt) (mUn (p1 oLen) (mVar 1)) (mC (.int 0)))) (tVal (mOp (p2 oEq) (mCall f__law_take (mCons (mVar 0) (mCons (mC (.int 3)) (mNil)))) (mC (.int 0))))) (sSeq (sAsg (mOp (p2 oIdx) (mVar 1) (mCall f__law_take (mCons (mVar 0) (mCons (mUn (p1 oLen) (mVar 1)) (mNil))))) (gName 3)) q2__law_word) (sNil)) q5__law_word
def b__law_word : S := sSeq (sAsg (mC (.str lit_0)) (gName 2)) q6__law_word
def f__law_word : F := fn 2 7 b__law_word
abbrev w1__law_house : S := sExpr (mApp (mVar 1) (mCall f__law_word (mCons (mVar 0) (mCons (mVar 1) (mNil)))))
abbrev w2__law_house : S := sExpr (mApp (mVar 3) (mOp (p2 oIdx) (mVar 1) (mCall f__law_take (mCons (mVar 0) (mCons (mUn (p1 oLen) (mVar 1)) (mNil))))))
abbrev q1__law_house : S := sExpr (mApp (mVar 4) (mTup (mCons (mVar 6) (mCons (mVar 7) (mNil)))))
abbrev q2__law_house : S := sIf (tVal (mOp (p2 oNotIn) (mVar 6) (mVar 5))) (sSeq (sExpr (mApp (mVar 5) (mVar 6))) q1__law_house) (sNil)
abbrev q3__law_house : S := sSeq (sIf (tVal (mOp (p2 oGt) (mCall f__law_take (mCons (mVar 0) (mCons (mC (.int 3)) (mNil)))) (mC (.int 0)))) (sAsg (mOp (p2 oIdx) (mVar 3) (mCall f__law_take (mCons (mVar 0) (mCons (mUn (p1 oLen) (mVar 3)) (mNil))))) (gName 7)) (sNil)) q2__law_house
abbrev q4__law_house : S := sSeq (sAsg (mC (.str [])) (gName 7)) q3__law_house
abbrev w3__law_house : S := sSeq (sAsg (mCall f__law_word (mCons (mVar 0) (mCons (mOp oAdd (mVar 1) (mVar 5)) (mNil)))) (gName 6)) q4__law_house
abbrev q5__law_house : S := sRet (mTup (mCons (mUn (oTuple) (mVar 3)) (mCons (mUn (oTuple) (mVar 4)) (mNil))))
abbrev q6__law_house : S := sSeq (sFor (iRange1 (mOp oAdd (mC (.int 1)) (mCall f__law_take (mCons (mVar 0) (mCons (mC (.int 6)) (mNil)))))) (gName 2) w3__law_house) q5__law_house
abbrev q7__law_house : S := sSeq (sAsg (mLst (mNil)) (gName 5)) q6__law_house
abbrev q8__law_house : S := sSeq (sAsg (mLst (mNil)) (gName 4)) q7__law_house
abbrev q9__law_house : S := sSeq (sFor (iRange1 (mOp oAdd (mC (.int 1)) (mCall f__law_take (mCons (mVar 0) (mCons (mC (.int 8)) (mNil)))))) (gName 2) w2__law_house) q8__law_house
abbrev q10__law_house : S := sSeq (sAsg (mLst (mNil)) (gName 3)) q9__law_house
abbrev q11__law_house : S := sSeq (sFor (iRange1 (mOp oAdd (mC (.int 1)) (mCall f__law_take (mCons (mVar 0) (mCons (mC (.int 8)) (mNil)))))) (gName 2) w1__law_house) q10__law_house
def b__law_house : S := sSeq (sAsg (mLst (mNil)) (gName 1)) q11__law_house
def f__law_house : F := fn 1 8 b__law_house
abbrev w1__law_same (rec : F) : S := sIf (tNot (tVal (mCall rec (mCons (mOp (p2 oIdx) (mVar 0) (mVar 2)) (mCons (mOp (p2 oIdx) (mVar 1) (mVar 2)) (mNil)))))) (sRet (mC (.bl false))) (sNil)
abbrev q1__law_same (rec : F) : S := sRet (mC (.bl true))
abbrev q2__law_same (rec : F) : S := sSeq (sFor (iRange1 (mUn (p1 oLen) (mVar 1))) (gName 2) (w1__law_same rec)) (q1__law_same rec)
abbrev q3__law_same (rec : F) : S := sSeq (sIf (tVal (mUn (p1 (oIsi .tuple)) (mVar 1))) (sIf (tOr (tNot (tVal (mUn (p1 (oIsi .tuple)) (mVar 0)))) (tVal (mOp (p2 oNe) (mUn (p1 oLen) (mVar 0)) (mUn (p1 oLen) (mVar 1))))) (sRet (mC (.bl false))) (sNil)) (sIf (tOr (tNot (tVal (mUn (p1 (oIsi .list)) (mVar 0)))) (tVal (mOp (p2 oNe) (mUn (p1 oLen) (mVar 0)) (mUn (p1 oLen) (mVar 1))))) (sRet (mC (.bl false))) (sNil))) (q2__law_same rec)
abbrev q4__law_same (rec : F) : S := sSeq (sIf (tVal (mUn (p1 (oIsi .str)) (mVar 1))) (sRet (mAnd (mUn (p1 (oIsi .str)) (mVar 0)) (mOp (p2 oEq) (mVar 0) (mVar 1)))) (sNil)) (q3__law_same rec)
abbrev q5__law_same (rec : F) : S := sSeq (sIf (tVal (mUn (p1 (oIsi .int)) (mVar 1))) (sRet (mAnd (mUn (p1 (oIsi .int)) (mVar 0)) (mAnd (mNot (mUn (p1 (oIsi .bool)) (mVar 0))) (mOp (p2 oEq) (mVar 0) (mVar 1))))) (sNil)) (q4__law_same rec)
abbrev q6__law_same (rec : F) : S := sSeq (sIf (tVal (mUn (p1 (oIsi .bool)) (mVar 1))) (sRet (mAnd (mUn (p1 (oIsi .bool)) (mVar 0)) (mOp (p2 oEq) (mVar 0) (mVar 1)))) (sNil)) (q5__law_same rec)
def b__law_same (rec : F) : S := sSeq (sIf (tVal (mOp (p2 oIsN) (mVar 1) (mC .non))) (sRet (mOp (p2 oIsN) (mVar 0) (mC .non))) (sNil)) (q6__law_same rec)
def f__law_same : Nat → F
  | 0 => fun _ _ => .bad
  | k + 1 => fn 2 3 (b__law_same (f__law_same k))
abbrev q1__law_copy (rec : F) : S := sRet (mVar 0)
abbrev q2__law_copy (rec : F) : S := sSeq (sIf (tVal (mUn (p1 (oIsi .tuple)) (mVar 0))) (sRet (mUn (oTuple) (mLc (iAny (mVar 0)) (gName 1) (tYes) (mCall rec (mCons (mVar 1) (mNil))) [1]))) (sNil)) (q1__law_copy rec)
def b__law_copy (rec : F) : S := sSeq (sIf (tVal (mUn (p1 (oIsi .list)) (mVar 0))) (sRet (mLc (iAny (mVar 0)) (gName 1) (tYes) (mCall rec (mCons (mVar 1) (mNil))) [1])) (sNil)) (q2__law_copy rec)
def f__law_copy : Nat → F
  | 0 => fun _ _ => .bad
  | k + 1 => fn 1 2 (b__law_copy (f__law_copy k))
abbrev q1__law_sign : S := sRet (mOp oAdd (mOp oAdd (mSl (mVar 1) none (some (mVar 3))) (mOp (p2 oIdx) (mVar 2) (mCall f__law_take (mCons (mVar 0) (mCons (mUn (p1 oLen) (mVar 2)) (mNil)))))) (mSl (mVar 1) (some (mOp oAdd (mVar 3) (mC (.int 1)))) none))
abbrev q2__law_sign : S := sSeq (sAsg (mCall f__law_take (mCons (mVar 0) (mCons (mUn (p1 oLen) (mVar 1)) (mNil)))) (gName 3)) q1__law_sign
def b__law_sign : S := sSeq (sAsg (mC (.str lit_1)) (gName 2)) q2__law_sign
def f__law_sign : F := fn 2 4 b__law_sign
def b__law_put : S := sRet (mOp oAdd (mOp oAdd (mSl (mVar 0) none (some (mVar 1))) (mTup (mCons (mVar 2) (mNil)))) (mSl (mVar 0) (some (mOp oAdd (mVar 1) (mC (.int 1)))) none))
def f__law_put : F := fn 3 3 b__law_put
abbrev q1__law_odd : S := sRet (mOp (p2 oIdx) (mVar 1) (mCall f__law_take (mCons (mVar 0) (mCons (mC (.int 16)) (mNil)))))
def b__law_odd : S := sSeq (sAsg (mLst (mCons (mC .non) (mCons (mC (.bl true)) (mCons (mC (.bl false)) (mCons (mC (.int 0)) (mCons (mC (.int 1)) (mCons (mUn oNeg (mC (.int 3))) (mCons (mC (.str [])) (mCons (mC (.str lit_2)) (mCons (mC (.str ['A', 'n', 'n'])) (mCons (mC (.str ['a', ' ', 'b'])) (mCons (mC (.str ['a', '1'])) (mCons (mTup (mNil)) (mCons (mLst (mNil)) (mCons (mTup (mCons (mC (.str ['a'])) (mNil))) (mCons (mLst (mCons (mC (.str ['a'])) (mNil))) (mCons (mTup (mCons (mC (.str ['a'])) (mCons (mC (.str [])) (mNil)))) (mNil)))))))))))))))))) (gName 1)) q1__law_odd
def f__law_odd : F := fn 1 2 b__law_odd
abbrev q1__law_spoil_owners : S := sRet (mCall f__law_put (mCons (mVar 1) (mCons (mVar 3) (mCons (mCall f__law_sign (mCons (mVar 0) (mCons (mOp (p2 oIdx) (mVar 1) (mVar 3)) (mNil)))) (mNil)))))
abbrev q2__law_spoil_owners : S := sSeq (sIf (tVal (mOp (p2 oEq) (mVar 2) (mC (.int 4)))) (sRet (mCall f__law_put (mCons (mVar 1) (mCons (mVar 3) (mCons (mCall f__law_odd (mCons (mVar 0) (mNil))) (mNil)))))) (sNil)) q1__law_spoil_owners
abbrev q3__law_spoil_owners : S := sSeq (sIf (tVal (mOp (p2 oEq) (mVar 2) (mC (.int 3)))) (sRet (mSl (mOp oMul (mVar 1) (mC (.int 8))) none (some (mC (.int 8))))) (sNil)) q2__law_spoil_owners
abbrev q4__law_spoil_owners : S := sSeq (sIf (tVal (mOp (p2 oEq) (mVar 2) (mC (.int 2)))) (sRet (mSl (mOp oMul (mVar 1) (mC (.int 9))) none (some (mC (.int 9))))) (sNil)) q3__law_spoil_owners
abbrev q5__law_spoil_owners : S := sSeq (sIf (tVal (mOp (p2 oEq) (mVar 2) (mC (.int 1)))) (sRet (mCall f__law_odd (mCons (mVar 0) (mNil)))) (sNil)) q4__law_spoil_owners
abbrev q6__law_spoil_owners : S := sSeq (sIf (tVal (mOp (p2 oEq) (mVar 2) (mC (.int 0)))) (sRet (mUn (oList) (mVar 1))) (sNil)) q5__law_spoil_owners
abbrev q7__law_spoil_owners : S := sSeq (sAsg (mCall f__law_take (mCons (mVar 0) (mCons (mUn (p1 oLen) (mVar 1)) (mNil)))) (gName 3)) q6__law_spoil_owners
def b__law_spoil_owners : S := sSeq (sAsg (mCall f__law_take (mCons (mVar 0) (mCons (mC (.int 6)) (mNil)))) (gName 2)) q7__law_spoil_owners
def f__law_spoil_owners : F := fn 2 4 b__law_spoil_owners
abbrev w1__law_more_rooms : S := sAsg (mOp oAdd (mVar 2) (mTup (mCons (mTup (mCons (mOp oAdd (mC (.str ['z', 'q'])) (mOp (p2 oIdx) (mC (.str ['a', 'b', 'c', 'd', 'e', 'f', 'g', 'h'])) (mVar 3))) (mCons (mC (.str [])) (mNil)))) (mNil)))) (gName 2)
abbrev q1__law_more_rooms : S := sRet (mVar 2)
abbrev q2__law_more_rooms : S := sSeq (sFor (iRange1 (mOp oSub (mVar 1) (mUn (p1 oLen) (mVar 0)))) (gName 3) w1__law_more_rooms) q1__law_more_rooms
def b__law_more_rooms : S := sSeq (sAsg (mVar 0) (gName 2)) q2__law_more_rooms
def f__law_more_rooms : F := fn 2 4 b__law_more_rooms
abbrev q1__law_spoil_rooms : S := sRet (mCall f__law_put (mCons (mVar 2) (mCons (mVar 4) (mCons (mTup (mCons (mOp (p2 oIdx) (mVar 6) (mC (.int 0))) (mCons (mOp (p2 oIdx) (mVar 5) (mC (.int 1))) (mNil)))) (mNil)))))
abbrev q2__law_spoil_rooms : S := sRet (mCall f__law_put (mCons (mVar 2) (mCons (mVar 4) (mCons (mTup (mCons (mOp (p2 oIdx) (mVar 5) (mC (.int 0))) (mCons (mOp (p2 oIdx) (mVar 7) (mCall f__law_take (mCons (mVar 0) (mCons (mC (.int 4)) (mNil))))) (mNil)))) (mNil)))))
abbrev q3__law_spoil_rooms : S := sSeq (sAsg (mLst (mCons (mCall f__law_odd (mCons (mVar 0) (mNil))) (mCons (mCall f__law_sign (mCons (mVar 0) (mCons (mOp (p2 oIdx) (mVar 1) (mC (.int 0))) (mNil)))) (mCons (mOp (p2 oIdx) (mVar 5) (mC (.int 0))) (mCons (mC (.str [])) (mNil)))))) (gName 7)) q2__law_spoil_rooms
abbrev q4__law_spoil_rooms : S := sSeq (sIf (tVal (mOp (p2 oEq) (mVar 3) (mC (.int 10)))) (sSeq (sAsg (mOp (p2 oIdx) (mVar 2) (mCall f__law_take (mCons (mVar 0) (mCons (mUn (p1 oLen) (mVar 2)) (mNil))))) (gName 6)) q1__law_spoil_rooms) (sNil)) q3__law_spoil_rooms
abbrev q5__law_spoil_rooms : S := sSeq (sIf (tVal (mOp (p2 oEq) (mVar 3) (mC (.int 9)))) (sRet (mCall f__law_put (mCons (mVar 2) (mCons (mVar 4) (mCons (mTup (mCons (mCall f__law_sign (mCons (mVar 0) (mCons (mOp (p2 oIdx) (mVar 5) (mC (.int 0))) (mNil)))) (mCons (mOp (p2 oIdx) (mVar 5) (mC (.int 1))) (mNil)))) (mNil)))))) (sNil)) q4__law_spoil_rooms
abbrev q6__law_spoil_rooms : S := sSeq (sIf (tVal (mOp (p2 oEq) (mVar 3) (mC (.int 8)))) (sRet (mCall f__law_put (mCons (mVar 2) (mCons (mVar 4) (mCons (mTup (mCons (mCall f__law_odd (mCons (mVar 0) (mNil))) (mCons (mOp (p2 oIdx) (mVar 5) (mC (.int 1))) (mNil)))) (mNil)))))) (sNil)) q5__law_spoil_rooms
abbrev q7__law_spoil_rooms : S := sSeq (sIf (tVal (mOp (p2 oEq) (mVar 3) (mC (.int 7)))) (sRet (mCall f__law_put (mCons (mVar 2) (mCons (mVar 4) (mCons (mSl (mVar 5) none (some (mC (.int 1)))) (mNil)))))) (sNil)) q6__law_spoil_rooms
abbrev q8__law_spoil_rooms : S := sSeq (sIf (tVal (mOp (p2 oEq) (mVar 3) (mC (.int 6)))) (sRet (mCall f__law_put (mCons (mVar 2) (mCons (mVar 4) (mCons (mOp oAdd (mVar 5) (mTup (mCons (mC (.str [])) (mNil)))) (mNil)))))) (sNil)) q7__law_spoil_rooms
abbrev q9__law_spoil_rooms : S := sSeq (sIf (tVal (mOp (p2 oEq) (mVar 3) (mC (.int 5)))) (sRet (mCall f__law_put (mCons (mVar 2) (mCons (mVar 4) (mCons (mUn (oList) (mVar 5)) (mNil)))))) (sNil)) q8__law_spoil_rooms
abbrev q10__law_spoil_rooms : S := sSeq (sIf (tVal (mOp (p2 oEq) (mVar 3) (mC (.int 4)))) (sRet (mCall f__law_put (mCons (mVar 2) (mCons (mVar 4) (mCons (mCall f__law_odd (mCons (mVar 0) (mNil))) (mNil)))))) (sNil)) q9__law_spoil_rooms
abbrev q11__law_spoil_rooms : S := sSeq (sIf (tVal (mOp (p2 oEq) (mVar 3) (mC (.int 3)))) (sRet (mCall f__law_more_rooms (mCons (mVar 2) (mCons (mC (.int 6)) (mNil))))) (sNil)) q10__law_spoil_rooms
abbrev q12__law_spoil_rooms : S := sSeq (sIf (tVal (mOp (p2 oEq) (mVar 3) (mC (.int 2)))) (sRet (mCall f__law_more_rooms (mCons (mVar 2) (mCons (mC (.int 7)) (mNil))))) (sNil)) q11__law_spoil_rooms
abbrev q13__law_spoil_rooms : S := sSeq (sIf (tVal (mOp (p2 oEq) (mVar 3) (mC (.int 1)))) (sRet (mCall f__law_odd (mCons (mVar 0) (mNil)))) (sNil)) q12__law_spoil_rooms
abbrev q14__law_spoil_rooms : S := sSeq (sIf (tVal (mOp (p2 oEq) (mVar 3) (mC (.int 0)))) (sRet (mUn (oList) (mVar 2))) (sNil)) q13__law_spoil_rooms
abbrev q15__law_spoil_rooms : S := sSeq (sAsg (mOp (p2 oIdx) (mVar 2) (mVar 4)) (gName 5)) q14__law_spoil_rooms
abbrev q16__law_spoil_rooms : S := sSeq (sAsg (mCall f__law_take (mCons (mVar 0) (mCons (mUn (p1 oLen) (mVar 2)) (mNil)))) (gName 4)) q15__law_spoil_rooms
def b__law_spoil_rooms : S := sSeq (sAsg (mCall f__law_take (mCons (mVar 0) (mCons (mC (.int 12)) (mNil)))) (gName 3)) q16__law_spoil_rooms
def f__law_spoil_rooms : F := fn 3 8 b__law_spoil_rooms
abbrev w1__law_is_word : S := sIf (tVal (mOp (p2 oNotIn) (mVar 1) (mC (.str lit_0)))) (sRet (mC (.bl false))) (sNil)
abbrev q1__law_is_word : S := sRet (mC (.bl true))
abbrev q2__law_is_word : S := sSeq (sFor (iAny (mVar 0)) (gName 1) w1__law_is_word) q1__law_is_word
def b__law_is_word : S := sSeq (sIf (tOr (tNot (tVal (mUn (p1 (oIsi .str)) (mVar 0)))) (tOr (tVal (mOp (p2 oLt) (mUn (p1 oLen) (mVar 0)) (mC (.int 1)))) (tVal (mOp (p2 oGt) (mUn (p1 oLen) (mVar 0)) (mC (.int 8)))))) (sRet (mC (.bl false))) (sNil)) q2__law_is_word
def f__law_is_word : F := fn 1 2 b__law_is_word
abbrev w1__law_fault : S := sIf (tNot (tVal (mCall f__law_is_word (mCons (mVar 3) (mNil))))) (sRet (mTup (mCons (mC (.str ['b', 'a', 'd'])) (mCons (mC (.int 0)) (mNil))))) (sNil)
abbrev q1__law_fault : S := sExpr (mApp (mVar 4) (mOp (p2 oIdx) (mVar 5) (mC (.int 0))))
abbrev q2__law_fault : S := sSeq (sIf (tOr (tNot (tVal (mUn (p1 (oIsi .str)) (mOp (p2 oIdx) (mVar 5) (mC (.int 1)))))) (tAnd (tVal (mOp (p2 oNe) (mOp (p2 oIdx) (mVar 5) (mC (.int 1))) (mC (.str [])))) (tVal (mOp (p2 oNotIn) (mOp (p2 oIdx) (mVar 5) (mC (.int 1))) (mVar 1))))) (sRet (mTup (mCons (mC (.str ['b', 'a', 'd'])) (mCons (mC (.int 1)) (mNil))))) (sNil)) q1__law_fault
abbrev q3__law_fault : S := sSeq (sIf (tOr (tNot (tVal (mCall f__law_is_word (mCons (mOp (p2 oIdx) (mVar 5) (mC (.int 0))) (mNil))))) (tVal (mOp (p2 oIn) (mOp (p2 oIdx) (mVar 5) (mC (.int 0))) (mVar 4)))) (sRet (mTup (mCons (mC (.str ['b', 'a', 'd'])) (mCons (mC (.int 1)) (mNil))))) (sNil)) q2__law_fault
abbrev w2__law_fault : S := sSeq (sIf (tOr (tNot (tVal (mUn (p1 (oIsi .tuple)) (mVar 5)))) (tVal (mOp (p2 oNe) (mUn (p1 oLen) (mVar 5)) (mC (.int 2))))) (sRet (mTup (mCons (mC (.str ['b', 'a', 'd'])) (mCons (mC (.int 1)) (mNil))))) (sNil)) q3__law_fault
abbrev q4__law_fault : S := sRet (mTup (mCons (mC (.str ['f', 'i', 'n', 'e'])) (mNil)))
abbrev q5__law_fault : S := sSeq (sFor (iAny (mVar 2)) (gName 5) w2__law_fault) q4__law_fault
abbrev q6__law_fault : S := sSeq (sAsg (mLst (mNil)) (gName 4)) q5__law_fault
abbrev q7__law_fault : S := sSeq (sIf (tOr (tNot (tVal (mUn (p1 (oIsi .tuple)) (mVar 2)))) (tOr (tVal (mOp (p2 oLt) (mUn (p1 oLen) (mVar 2)) (mC (.int 1)))) (tVal (mOp (p2 oGt) (mUn (p1 oLen) (mVar 2)) (mC (.int 6)))))) (sRet (mTup (mCons (mC (.str ['b', 'a', 'd'])) (mCons (mC (.int 1)) (mNil))))) (sNil)) q6__law_fault
abbrev q8__law_fault : S := sSeq (sFor (iAny (mVar 1)) (gName 3) w1__law_fault) q7__law_fault
abbrev q9__law_fault : S := sSeq (sIf (tOr (tNot (tVal (mUn (p1 (oIsi .tuple)) (mVar 1)))) (tOr (tVal (mOp (p2 oLt) (mUn (p1 oLen) (mVar 1)) (mC (.int 1)))) (tVal (mOp (p2 oGt) (mUn (p1 oLen) (mVar 1)) (mC (.int 8)))))) (sRet (mTup (mCons (mC (.str ['b', 'a', 'd'])) (mCons (mC (.int 0)) (mNil))))) (sNil)) q8__law_fault
abbrev q10__law_fault : S := sSeq (sAsg (mOp (p2 oIdx) (mVar 0) (mC (.int 1))) (gName 2)) q9__law_fault
def b__law_fault : S := sSeq (sAsg (mOp (p2 oIdx) (mVar 0) (mC (.int 0))) (gName 1)) q10__law_fault
def f__law_fault : F := fn 1 6 b__law_fault
abbrev t1__law_checked : S := sAsg (mCall f_check_house (mCons (mVar 0) (mNil))) (gName 1)
abbrev q1__law_checked (e : Exc) (a b : Nat) : S := sRet (mTup (mCons (mC (.str ['b', 'a', 'd'])) (mCons (mFldC fl_place "place" 2 e a b) (mNil))))
abbrev q2__law_checked (e : Exc) (a b : Nat) : S := sSeq (sIf (tOr (tVal (mIsE is_UnknownRoom 2 e a b)) (tVal (mIsE is_UnknownPerson 2 e a b))) (sRet (mTup (mCons (mC (.str ['o', 't', 'h', 'e', 'r'])) (mNil)))) (sNil)) (q1__law_checked e a b)
abbrev q3__law_checked : S := sRet (mTup (mCons (mC (.str ['f', 'i', 'n', 'e'])) (mNil)))
abbrev q4__law_checked : S := sSeq (sIf (tVal (mOp (p2 oNotN) (mVar 1) (mC .non))) (sRet (mTup (mCons (mC (.str ['o', 't', 'h', 'e', 'r'])) (mNil)))) (sNil)) q3__law_checked
abbrev q5__law_checked : S := sSeq (sTryAs t1__law_checked ex_HearsayError 2 (fun e a b => sSeq (sIf (tOr (tNot (tVal (mIsE is_BadHouse 2 e a b))) (tNot (tVal (mIsE is_ValueError 2 e a b)))) (sRet (mTup (mCons (mC (.str ['o', 't', 'h', 'e', 'r'])) (mNil)))) (sNil)) (q2__law_checked e a b))) q4__law_checked
def b__law_checked : S := sSeq (sAsg (mC (.int 0)) (gName 1)) q5__law_checked
def f__law_checked : F := fn 1 3 b__law_checked
abbrev t1__law_devices : S := sAsg (mCall f_devices_of (mCons (mVar 0) (mCons (mVar 1) (mNil)))) (gName 2)
abbrev q1__law_devices (e : Exc) (a b : Nat) : S := sRet (mTup (mCons (mC (.str lit_3)) (mCons (mFldC fl_person "person" 3 e a b) (mNil))))
abbrev q2__law_devices : S := sRet (mTup (mCons (mC (.str ['t', 'o', 'l', 'd'])) (mCons (mVar 2) (mNil))))
abbrev q3__law_devices : S := sSeq (sTryAs t1__law_devices ex_HearsayError 3 (fun e a b => sSeq (sIf (tOr (tNot (tVal (mIsE is_UnknownPerson 3 e a b))) (tOr (tVal (mIsE is_UnknownRoom 3 e a b)) (tVal (mIsE is_BadHouse 3 e a b)))) (sRet (mTup (mCons (mC (.str ['o', 't', 'h', 'e', 'r'])) (mNil)))) (sNil)) (q1__law_devices e a b))) q2__law_devices
def b__law_devices : S := sSeq (sAsg (mLst (mNil)) (gName 2)) q3__law_devices
def f__law_devices : F := fn 2 4 b__law_devices
abbrev t1__law_keeper : S := sAsg (mCall f_keeper_of (mCons (mVar 0) (mCons (mVar 1) (mNil)))) (gName 2)
abbrev q1__law_keeper (e : Exc) (a b : Nat) : S := sRet (mTup (mCons (mC (.str lit_4)) (mCons (mFldC fl_room "room" 3 e a b) (mNil))))
abbrev q2__law_keeper : S := sRet (mTup (mCons (mC (.str ['t', 'o', 'l', 'd'])) (mCons (mVar 2) (mNil))))
abbrev q3__law_keeper : S := sSeq (sTryAs t1__law_keeper ex_HearsayError 3 (fun e a b => sSeq (sIf (tOr (tNot (tVal (mIsE is_UnknownRoom 3 e a b))) (tOr (tVal (mIsE is_UnknownPerson 3 e a b)) (tVal (mIsE is_BadHouse 3 e a b)))) (sRet (mTup (mCons (mC (.str ['o', 't', 'h', 'e', 'r'])) (mNil)))) (sNil)) (q1__law_keeper e a b))) q2__law_keeper
def b__law_keeper : S := sSeq (sAsg (mC (.str [])) (gName 2)) q3__law_keeper
def f__law_keeper : F := fn 2 4 b__law_keeper
abbrev t1__law_droppers : S := sAsg (mCall f_droppers (mCons (mVar 0) (mCons (mVar 1) (mCons (mVar 2) (mNil))))) (gName 3)
abbrev q1__law_droppers (e : Exc) (a b : Nat) : S := sRet (mTup (mCons (mC (.str ['o', 't', 'h', 'e', 'r'])) (mNil)))
abbrev q2__law_droppers (e : Exc) (a b : Nat) : S := sSeq (sIf (tAnd (tVal (mIsE is_UnknownPerson 4 e a b)) (tNot (tVal (mIsE is_UnknownRoom 4 e a b)))) (sRet (mTup (mCons (mC (.str lit_3)) (mCons (mFldC fl_person "person" 4 e a b) (mNil))))) (sNil)) (q1__law_droppers e a b)
abbrev q3__law_droppers : S := sRet (mTup (mCons (mC (.str ['t', 'o', 'l', 'd'])) (mCons (mVar 3) (mNil))))
abbrev q4__law_droppers : S := sSeq (sTryAs t1__law_droppers ex_HearsayError 4 (fun e a b => sSeq (sIf (tAnd (tVal (mIsE is_UnknownRoom 4 e a b)) (tNot (tVal (mIsE is_UnknownPerson 4 e a b)))) (sRet (mTup (mCons (mC (.str lit_4)) (mCons (mFldC fl_room "room" 4 e a b) (mNil))))) (sNil)) (q2__law_droppers e a b))) q3__law_droppers
def b__law_droppers : S := sSeq (sAsg (mLst (mNil)) (gName 3)) q4__law_droppers
def f__law_droppers : F := fn 3 5 b__law_droppers
abbrev q1__law_due_devices : S := sRet (mTup (mCons (mC (.str ['t', 'o', 'l', 'd'])) (mCons (mVar 2) (mNil))))
abbrev q2__law_due_devices : S := sSeq (sIf (tVal (mOp (p2 oEq) (mUn (p1 oLen) (mVar 2)) (mC (.int 0)))) (sRet (mTup (mCons (mC (.str lit_3)) (mCons (mVar 1) (mNil))))) (sNil)) q1__law_due_devices
def b__law_due_devices : S := sSeq (sAsg (mLc (iRange1 (mUn (p1 oLen) (mOp (p2 oIdx) (mVar 0) (mC (.int 0))))) (gName 3) (tVal (mOp (p2 oEq) (mOp (p2 oIdx) (mOp (p2 oIdx) (mVar 0) (mC (.int 0))) (mVar 3)) (mVar 1))) (mVar 3) [3]) (gName 2)) q2__law_due_devices
def f__law_due_devices : F := fn 2 4 b__law_due_devices
abbrev w1__law_due_keeper : S := sIf (tVal (mOp (p2 oEq) (mOp (p2 oIdx) (mVar 2) (mC (.int 0))) (mVar 1))) (sRet (mTup (mCons (mC (.str ['t', 'o', 'l', 'd'])) (mCons (mOp (p2 oIdx) (mVar 2) (mC (.int 1))) (mNil))))) (sNil)
abbrev q1__law_due_keeper : S := sRet (mTup (mCons (mC (.str lit_4)) (mCons (mVar 1) (mNil))))
def b__law_due_keeper : S := sSeq (sFor (iAny (mOp (p2 oIdx) (mVar 0) (mC (.int 1)))) (gName 2) w1__law_due_keeper) q1__law_due_keeper
def f__law_due_keeper : F := fn 2 3 b__law_due_keeper
abbrev q1__law_due_droppers : S := sRet (mTup (mCons (mC (.str ['t', 'o', 'l', 'd'])) (mCons (mLc (iRange1 (mUn (p1 oLen) (mVar 4))) (gName 5) (tOr (tVal (mOp (p2 oEq) (mOp (p2 oIdx) (mVar 4) (mVar 5)) (mVar 2))) (tVal (mOp (p2 oEq) (mOp (p2 oIdx) (mVar 4) (mVar 5)) (mOp (p2 oIdx) (mVar 3) (mC (.int 1)))))) (mVar 5) [5]) (mNil))))
abbrev q2__law_due_droppers : S := sSeq (sAsg (mOp (p2 oIdx) (mVar 0) (mC (.int 0))) (gName 4)) q1__law_due_droppers
abbrev q3__law_due_droppers : S := sSeq (sIf (tVal (mOp (p2 oNotIn) (mVar 2) (mOp (p2 oIdx) (mVar 0) (mC (.int 0))))) (sRet (mTup (mCons (mC (.str lit_3)) (mCons (mVar 2) (mNil))))) (sNil)) q2__law_due_droppers
abbrev q4__law_due_droppers : S := sSeq (sIf (tVal (mOp (p2 oNe) (mOp (p2 oIdx) (mVar 3) (mC (.int 0))) (mC (.str ['t', 'o', 'l', 'd'])))) (sRet (mVar 3)) (sNil)) q3__law_due_droppers
def b__law_due_droppers : S := sSeq (sAsg (mCall f__law_due_keeper (mCons (mVar 0) (mCons (mVar 1) (mNil)))) (gName 3)) q4__law_due_droppers
def f__law_due_droppers : F := fn 3 6 b__law_due_droppers
def b__law_told_lists : S := sRet (mLst (mCons (mCall f_people (mCons (mVar 0) (mNil))) (mCons (mCall f_room_names (mCons (mVar 0) (mNil))) (mCons (mCall f_devices_of (mCons (mVar 0) (mCons (mVar 2) (mNil)))) (mCons (mCall f_droppers (mCons (mVar 0) (mCons (mVar 1) (mCons (mVar 2) (mNil))))) (mNil))))))
def f__law_told_lists : F := fn 3 3 b__law_told_lists
abbrev w1__law_lists : S := sExpr (mApp (mOp (p2 oIdx) (mVar 6) (mVar 7)) (mC (.str ['x'])))
abbrev q1__law_lists : S := sRet (mCall (f__law_same 8) (mCons (mCall f__law_told_lists (mCons (mVar 0) (mCons (mVar 3) (mCons (mVar 4) (mNil))))) (mCons (mVar 5) (mNil))))
abbrev q2__law_lists : S := sSeq (sFor (iRange1 (mC (.int 4))) (gName 7) w1__law_lists) q1__law_lists
abbrev q3__law_lists : S := sSeq (sIf (tNot (tVal (mCall (f__law_same 8) (mCons (mVar 6) (mCons (mVar 5) (mNil)))))) (sRet (mC (.bl false))) (sNil)) q2__law_lists
abbrev q4__law_lists : S := sSeq (sAsg (mCall f__law_told_lists (mCons (mVar 0) (mCons (mVar 3) (mCons (mVar 4) (mNil))))) (gName 6)) q3__law_lists
abbrev q5__law_lists : S := sSeq (sExpr (mApp (mVar 5) (mOp (p2 oIdx) (mCall f__law_due_droppers (mCons (mVar 0) (mCons (mVar 3) (mCons (mVar 4) (mNil))))) (mC (.int 1))))) q4__law_lists
abbrev q6__law_lists : S := sSeq (sExpr (mApp (mVar 5) (mOp (p2 oIdx) (mCall f__law_due_devices (mCons (mVar 0) (mCons (mVar 4) (mNil)))) (mC (.int 1))))) q5__law_lists
abbrev q7__law_lists : S := sSeq (sAsg (mLst (mCons (mUn (oList) (mVar 1)) (mCons (mUn (oList) (mVar 2)) (mNil)))) (gName 5)) q6__law_lists
abbrev q8__law_lists : S := sSeq (sAsg (mOp (p2 oIdx) (mVar 1) (mOp oSub (mUn (p1 oLen) (mVar 1)) (mC (.int 1)))) (gName 4)) q7__law_lists
def b__law_lists : S := sSeq (sAsg (mOp (p2 oIdx) (mVar 2) (mOp oSub (mUn (p1 oLen) (mVar 2)) (mC (.int 1)))) (gName 3)) q8__law_lists
def f__law_lists : F := fn 3 8 b__law_lists
abbrev w1__law_good : S := sIf (tVal (mOp (p2 oNotIn) (mVar 3) (mVar 2))) (sExpr (mApp (mVar 2) (mVar 3))) (sNil)
abbrev w2__law_good : S := sIf (tNot (tVal (mCall (f__law_same 8) (mCons (mCall f__law_devices (mCons (mVar 1) (mCons (mVar 3) (mNil)))) (mCons (mCall f__law_due_devices (mCons (mVar 1) (mCons (mVar 3) (mNil)))) (mNil)))))) (sRet (mC (.bl false))) (sNil)
abbrev w3__law_good : S := sIf (tNot (tVal (mCall (f__law_same 8) (mCons (mCall f__law_droppers (mCons (mVar 1) (mCons (mVar 6) (mCons (mVar 3) (mNil))))) (mCons (mCall f__law_due_droppers (mCons (mVar 1) (mCons (mVar 6) (mCons (mVar 3) (mNil))))) (mNil)))))) (sRet (mC (.bl false))) (sNil)
abbrev q1__law_good : S := sFor (iAny (mOp oAdd (mOp oAdd (mVar 2) (mSl (mVar 4) none (some (mC (.int 1))))) (mSl (mVar 5) none (some (mC (.int 2)))))) (gName 3) w3__law_good
abbrev w4__law_good : S := sSeq (sIf (tNot (tVal (mCall (f__law_same 8) (mCons (mCall f__law_keeper (mCons (mVar 1) (mCons (mVar 6) (mNil)))) (mCons (mCall f__law_due_keeper (mCons (mVar 1) (mCons (mVar 6) (mNil)))) (mNil)))))) (sRet (mC (.bl false))) (sNil)) q1__law_good
abbrev q2__law_good : S := sRet (mC (.bl true))
abbrev q3__law_good : S := sSeq (sFor (iAny (mOp oAdd (mOp oAdd (mVar 4) (mSl (mVar 2) none (some (mC (.int 2))))) (mVar 5))) (gName 6) w4__law_good) q2__law_good
abbrev q4__law_good : S := sSeq (sFor (iAny (mOp oAdd (mOp oAdd (mVar 2) (mSl (mVar 4) none (some (mC (.int 2))))) (mVar 5))) (gName 3) w2__law_good) q3__law_good
abbrev q5__law_good : S := sSeq (sAsg (mLst (mCons (mCall f__law_sign (mCons (mVar 0) (mCons (mOp (p2 oIdx) (mVar 2) (mC (.int 0))) (mNil)))) (mCons (mCall f__law_word (mCons (mVar 0) (mCons (mOp oAdd (mVar 2) (mVar 4)) (mNil)))) (mCons (mC (.str [])) (mNil))))) (gName 5)) q4__law_good
abbrev q6__law_good : S := sSeq (sIf (tNot (tVal (mCall f__law_lists (mCons (mVar 1) (mCons (mVar 2) (mCons (mVar 4) (mNil))))))) (sRet (mC (.bl false))) (sNil)) q5__law_good
abbrev q7__law_good : S := sSeq (sAsg (mLc (iAny (mOp (p2 oIdx) (mVar 1) (mC (.int 1)))) (gName 7) (tYes) (mOp (p2 oIdx) (mVar 7) (mC (.int 0))) [7]) (gName 4)) q6__law_good
abbrev q8__law_good : S := sSeq (sAsg (mUn oSorted (mVar 2)) (gName 2)) q7__law_good
abbrev q9__law_good : S := sSeq (sFor (iAny (mOp (p2 oIdx) (mVar 1) (mC (.int 0)))) (gName 3) w1__law_good) q8__law_good
def b__law_good : S := sSeq (sAsg (mLst (mNil)) (gName 2)) q9__law_good
def f__law_good : F := fn 2 8 b__law_good
abbrev q1_law : S := sRet (mCall f__law_good (mCons (mVar 2) (mCons (mVar 6) (mNil))))
abbrev q2_law : S := sSeq (sIf (tVal (mOp (p2 oEq) (mOp (p2 oIdx) (mVar 8) (mC (.int 0))) (mC (.str ['b', 'a', 'd'])))) (sRet (mC (.bl true))) (sNil)) q1_law
abbrev q3_law : S := sSeq (sIf (tOr (tNot (tVal (mCall (f__law_same 8) (mCons (mCall f__law_checked (mCons (mVar 6) (mNil))) (mCons (mVar 8) (mNil)))))) (tNot (tVal (mCall (f__law_same 8) (mCons (mVar 6) (mCons (mVar 7) (mNil))))))) (sRet (mC (.bl false))) (sNil)) q2_law
abbrev q4_law : S := sSeq (sAsg (mCall f__law_fault (mCons (mVar 6) (mNil))) (gName 8)) q3_law
abbrev q5_law : S := sSeq (sAsg (mCall (f__law_copy 8) (mCons (mVar 6) (mNil))) (gName 7)) q4_law
abbrev q6_law : S := sSeq (sAsg (mTup (mCons (mVar 4) (mCons (mVar 5) (mNil)))) (gName 6)) q5_law
abbrev q7_law : S := sSeq (sIf (tVal (mOp (p2 oGt) (mVar 3) (mC (.int 1)))) (sAsg (mCall f__law_spoil_rooms (mCons (mVar 2) (mCons (mOp (p2 oIdx) (mVar 1) (mC (.int 0))) (mCons (mVar 5) (mNil))))) (gName 5)) (sNil)) q6_law
abbrev q8_law : S := sSeq (sIf (tOr (tVal (mOp (p2 oEq) (mVar 3) (mC (.int 1)))) (tVal (mOp (p2 oEq) (mVar 3) (mC (.int 3))))) (sAsg (mCall f__law_spoil_owners (mCons (mVar 2) (mCons (mVar 4) (mNil)))) (gName 4)) (sNil)) q7_law
abbrev q9_law : S := sSeq (sAsg (mOp (p2 oIdx) (mVar 1) (mC (.int 1))) (gName 5)) q8_law
abbrev q10_law : S := sSeq (sAsg (mOp (p2 oIdx) (mVar 1) (mC (.int 0))) (gName 4)) q9_law
abbrev q11_law : S := sSeq (sAsg (mCall f__law_take (mCons (mVar 2) (mCons (mC (.int 4)) (mNil)))) (gName 3)) q10_law
abbrev q12_law : S := sSeq (sAsg (mCall f__law_source (mCons (mVar 0) (mCons (mC (.int 1)) (mNil)))) (gName 2)) q11_law
def b_law : S := sSeq (sAsg (mCall f__law_house (mCons (mCall f__law_source (mCons (mVar 0) (mCons (mC (.int 0)) (mNil)))) (mNil))) (gName 1)) q12_law
def f_law : F := fn 1 9 b_law
end
end K01
end

section
set_option Elab.async false
set_option linter.all false
set_option maxRecDepth 100000
set_option autoImplicit false
/-! The derivations; printed by genx.py. -/
namespace K01
open Py PySem L2
def top (i : Nat) : Stmt := PySem.Challenge.pw_hearsay_k01_houses.main.body.getD i (.Pass ⟨0, 0, 0, 0⟩)
abbrev s_BadHouse : Stmt := PyJ.initOf (top 2)
abbrev s_UnknownPerson : Stmt := PyJ.initOf (top 3)
abbrev s_UnknownRoom : Stmt := PyJ.initOf (top 4)
abbrev s_is_word : Stmt := top 10
abbrev N_is_word : List Str := ["value", "char"]
abbrev P_is_word : List Str := ["value"]
abbrev s_good_owners : Stmt := top 11
abbrev N_good_owners : List Str := ["owners", "person"]
abbrev P_good_owners : List Str := ["owners"]
abbrev s_good_rooms : Stmt := top 12
abbrev N_good_rooms : List Str := ["owners", "rooms", "taken", "pair", "room", "keeper"]
abbrev P_good_rooms : List Str := ["owners", "rooms"]
abbrev s_check_house : Stmt := top 13
abbrev N_check_house : List Str := ["house", "owners", "rooms"]
abbrev P_check_house : List Str := ["house"]
abbrev s_people : Stmt := top 14
abbrev N_people : List Str := ["house"]
abbrev P_people : List Str := ["house"]
abbrev s_devices_of : Stmt := top 15
abbrev N_devices_of : List Str := ["house", "person", "found", "device", "owner"]
abbrev P_devices_of : List Str := ["house", "person"]
abbrev s_room_names : Stmt := top 16
abbrev N_room_names : List Str := ["house", "pair"]
abbrev P_room_names : List Str := ["house"]
abbrev s_keeper_of : Stmt := top 17
abbrev N_keeper_of : List Str := ["house", "room", "name", "keeper"]
abbrev P_keeper_of : List Str := ["house", "room"]
abbrev s_droppers : Stmt := top 18
abbrev N_droppers : List Str := ["house", "room", "person", "keeper", "device", "owner"]
abbrev P_droppers : List Str := ["house", "room", "person"]
abbrev s__law_seed : Stmt := top 20
abbrev N__law_seed : List Str := ["script", "seed", "k"]
abbrev P__law_seed : List Str := ["script"]
abbrev s__law_source : Stmt := top 21
abbrev N__law_source : List Str := ["script", "place", "cell", "seed", "mixed"]
abbrev P__law_source : List Str := ["script", "place"]
abbrev s__law_take : Stmt := top 22
abbrev N__law_take : List Str := ["source", "many", "digit"]
abbrev P__law_take : List Str := ["source", "many"]
abbrev s__law_word : Stmt := top 23
abbrev N__law_word : List Str := ["source", "others", "letters", "base", "place", "word", "k"]
abbrev P__law_word : List Str := ["source", "others"]
abbrev s__law_house : Stmt := top 24
abbrev N__law_house : List Str := ["source", "words", "k", "owners", "rooms", "taken", "word", "keeper"]
abbrev P__law_house : List Str := ["source"]
abbrev s__law_same : Stmt := top 25
abbrev N__law_same : List Str := ["told", "due", "k"]
abbrev P__law_same : List Str := ["told", "due"]
abbrev s__law_copy : Stmt := top 26
abbrev N__law_copy : List Str := ["value", "part"]
abbrev P__law_copy : List Str := ["value"]
abbrev s__law_sign : Stmt := top 27
abbrev N__law_sign : List Str := ["source", "word", "signs", "place"]
abbrev P__law_sign : List Str := ["source", "word"]
abbrev s__law_put : Stmt := top 28
abbrev N__law_put : List Str := ["row", "place", "value"]
abbrev P__law_put : List Str := ["row", "place", "value"]
abbrev s__law_odd : Stmt := top 29
abbrev N__law_odd : List Str := ["source", "odd"]
abbrev P__law_odd : List Str := ["source"]
abbrev s__law_spoil_owners : Stmt := top 30
abbrev N__law_spoil_owners : List Str := ["source", "owners", "turn", "place"]
abbrev P__law_spoil_owners : List Str := ["source", "owners"]
abbrev s__law_more_rooms : Stmt := top 31
abbrev N__law_more_rooms : List Str := ["rooms", "many", "more", "k"]
abbrev P__law_more_rooms : List Str := ["rooms", "many"]
abbrev s__law_spoil_rooms : Stmt := top 32
abbrev N__law_spoil_rooms : List Str := ["source", "owners", "rooms", "turn", "place", "pair", "other", "keepers"]
abbrev P__law_spoil_rooms : List Str := ["source", "owners", "rooms"]
abbrev s__law_is_word : Stmt := top 33
abbrev N__law_is_word : List Str := ["value", "sign"]
abbrev P__law_is_word : List Str := ["value"]
abbrev s__law_fault : Stmt := top 34
abbrev N__law_fault : List Str := ["house", "owners", "rooms", "person", "taken", "pair"]
abbrev P__law_fault : List Str := ["house"]
abbrev s__law_checked : Stmt := top 35
abbrev N__law_checked : List Str := ["house", "told", "e"]
abbrev P__law_checked : List Str := ["house"]
abbrev s__law_devices : Stmt := top 36
abbrev N__law_devices : List Str := ["house", "person", "told", "e"]
abbrev P__law_devices : List Str := ["house", "person"]
abbrev s__law_keeper : Stmt := top 37
abbrev N__law_keeper : List Str := ["house", "room", "told", "e"]
abbrev P__law_keeper : List Str := ["house", "room"]
abbrev s__law_droppers : Stmt := top 38
abbrev N__law_droppers : List Str := ["house", "room", "person", "told", "e"]
abbrev P__law_droppers : List Str := ["house", "room", "person"]
abbrev s__law_due_devices : Stmt := top 39
abbrev N__law_due_devices : List Str := ["house", "person", "mine", "d"]
abbrev P__law_due_devices : List Str := ["house", "person"]
abbrev s__law_due_keeper : Stmt := top 40
abbrev N__law_due_keeper : List Str := ["house", "room", "pair"]
abbrev P__law_due_keeper : List Str := ["house", "room"]
abbrev s__law_due_droppers : Stmt := top 41
abbrev N__law_due_droppers : List Str := ["house", "room", "person", "keeper", "owners", "d"]
abbrev P__law_due_droppers : List Str := ["house", "room", "person"]
abbrev s__law_told_lists : Stmt := top 42
abbrev N__law_told_lists : List Str := ["house", "room", "person"]
abbrev P__law_told_lists : List Str := ["house", "room", "person"]
abbrev s__law_lists : Stmt := top 43
abbrev N__law_lists : List Str := ["house", "persons", "names", "room", "person", "due", "told", "k"]
abbrev P__law_lists : List Str := ["house", "persons", "names"]
abbrev s__law_good : Stmt := top 44
abbrev N__law_good : List Str := ["source", "house", "persons", "person", "names", "strange", "room", "pair"]
abbrev P__law_good : List Str := ["source", "house"]
abbrev s_law : Stmt := top 45
abbrev N_law : List Str := ["script", "house", "source", "mode", "owners", "rooms", "asked", "kept", "due"]
abbrev P_law : List Str := ["script"]
structure Txt (P : Program) (w : World) (K : PySem.W.Frag) (mg : Str → Option Value) : Prop where
  n_ValueError : mg "ValueError" = none
  n_bool : mg "bool" = none
  n_enumerate : mg "enumerate" = none
  n_int : mg "int" = none
  n_isinstance : mg "isinstance" = none
  n_len : mg "len" = none
  n_list : mg "list" = none
  n_min : mg "min" = none
  n_range : mg "range" = none
  n_set : mg "set" = none
  n_sorted : mg "sorted" = none
  n_str : mg "str" = none
  n_tuple : mg "tuple" = none
  n_super : mg "super" = none
  c_LETTERS : ∃ t, mg "LETTERS" = some (.str (sS lit_0) t)
  c_MOST_DEVICES : ∃ t, mg "MOST_DEVICES" = some (.int 8 t)
  c_MOST_LETTERS : ∃ t, mg "MOST_LETTERS" = some (.int 8 t)
  c_MOST_ROOMS : ∃ t, mg "MOST_ROOMS" = some (.int 6 t)
  g_BadHouse : mg "BadHouse" = some (.ref (He.ga K "BadHouse"))
  g_HearsayError : mg "HearsayError" = some (.ref (He.ga K "HearsayError"))
  g_UnknownPerson : mg "UnknownPerson" = some (.ref (He.ga K "UnknownPerson"))
  g_UnknownRoom : mg "UnknownRoom" = some (.ref (He.ga K "UnknownRoom"))
  er_BadHouse : PyX.ErrC P w K mg "BadHouse" ["place"]
  er_UnknownPerson : PyX.ErrC P w K mg "UnknownPerson" ["person"]
  er_UnknownRoom : PyX.ErrC P w K mg "UnknownRoom" ["room"]
  isq_BadHouse : IsT K mg is_BadHouse (.ref (He.ga K "BadHouse"))
  isq_UnknownPerson : IsT K mg is_UnknownPerson (.ref (He.ga K "UnknownPerson"))
  isq_UnknownRoom : IsT K mg is_UnknownRoom (.ref (He.ga K "UnknownRoom"))
  isq_ValueError : IsT K mg is_ValueError (.type "ValueError")
  exq_HearsayError : ExT K mg ex_HearsayError (.ref (He.ga K "HearsayError"))
  flq_person : FlT K mg fl_person "person"
  flq_place : FlT K mg fl_place "place"
  flq_room : FlT K mg fl_room "room"
section
variable {P : Program} {w : World} {K : PySem.W.Frag} {mg : Str → Option Value} {base : Heap}
abbrev Fn (K : PySem.W.Frag) (x : Str) (st : Stmt) (f : Addr) (fd : FuncData) : Prop := FunD K x x (defArgs st) (defBody st) (defScope st) [] [] f fd
theorem errC_BadHouse {C fI D : Addr} (T : PyX.HErr K P C fI D ["place"] (defArgs s_BadHouse) (defBody s_BadHouse) (defScope s_BadHouse)) (hx : mg "BadHouse" = some (.ref C)) (hs : mg "super" = none) : PyX.ErrC P w K mg "BadHouse" ["place"] :=
  PyX.errC_of (f := (_, ⟨_, _, _, _⟩)) (fp := []) T ⟨⟨_, rfl, rfl⟩, by decide +kernel, rfl, rfl, by decide +kernel, by decide +kernel, by decide +kernel, by decide, fun _ => ⟨_, rfl⟩⟩ hx hs (fun _ _ _ _ _ _ _ _ _ us hl => match us, hl with | [_], _ => .of_eq rfl)
theorem errC_UnknownPerson {C fI D : Addr} (T : PyX.HErr K P C fI D ["person"] (defArgs s_UnknownPerson) (defBody s_UnknownPerson) (defScope s_UnknownPerson)) (hx : mg "UnknownPerson" = some (.ref C)) (hs : mg "super" = none) : PyX.ErrC P w K mg "UnknownPerson" ["person"] :=
  PyX.errC_of (f := (_, ⟨_, _, _, _⟩)) (fp := []) T ⟨⟨_, rfl, rfl⟩, by decide +kernel, rfl, rfl, by decide +kernel, by decide +kernel, by decide +kernel, by decide, fun _ => ⟨_, rfl⟩⟩ hx hs (fun _ _ _ _ _ _ _ _ _ us hl => match us, hl with | [_], _ => .of_eq rfl)
theorem errC_UnknownRoom {C fI D : Addr} (T : PyX.HErr K P C fI D ["room"] (defArgs s_UnknownRoom) (defBody s_UnknownRoom) (defScope s_UnknownRoom)) (hx : mg "UnknownRoom" = some (.ref C)) (hs : mg "super" = none) : PyX.ErrC P w K mg "UnknownRoom" ["room"] :=
  PyX.errC_of (f := (_, ⟨_, _, _, _⟩)) (fp := []) T ⟨⟨_, rfl, rfl⟩, by decide +kernel, rfl, rfl, by decide +kernel, by decide +kernel, by decide +kernel, by decide, fun _ => ⟨_, rfl⟩⟩ hx hs (fun _ _ _ _ _ _ _ _ _ us hl => match us, hl with | [_], _ => .of_eq rfl)
theorem sc_is_word : FnScope N_is_word P_is_word (defScope s_is_word) := ⟨rfl, rfl, rfl, by decide +kernel, rfl, by decide +kernel, by decide +kernel⟩
theorem ok_is_word {a : Addr} {fd : FuncData} (T : Txt P w K mg) (Fd : Fn K "is_word" s_is_word a fd) (hm : mg "is_word" = some (.ref a)) : Cal P w K mg base (L2.CX P w) 1 "is_word" 1 f_is_word := by
  refine ⟨a, fd, P_is_word, Fd.ok (CX := (L2.CX P w)) (k := 0) sc_is_word (sp_len rfl) fun cdv A outer s H vs Q E hr h => ⟨_, ?_, body_read (b := b_is_word) rfl h⟩, hm, Fd.kp, Fd.bindsN (fun _ _ _ _ _ _ us hl => match us, hl with | [_], _ => rfl)⟩
  exact tk_go (takes_of rfl rfl rfl rfl) fun tk => ss_cons (s_if (t_w (t_or (t_not (t_val (e_isi .str T.n_isinstance T.n_str (by decide +kernel) (e_var 0)))) (t_or1 (t_not (t_chain o_le o_le (e_int) (e_b1 (c_len) T.n_len (by decide +kernel) (e_var 0)) (e_gint' T.c_MOST_LETTERS)))))) (ss_one (s_ret (e_bl))) (ss_nil))
      (ss_cons (s_for (own := [1]) (passes_of rfl) rfl (i_any (e_var 0)) (g_name (own := [1]) 1 sc_is_word.nd) (ss_one (s_if (t_cmp (o_notIn hr) (e_var 1) (e_gstr' T.c_LETTERS)) (ss_one (s_ret (e_bl))) (ss_nil))))
      (ss_one (s_ret (e_bl))))
theorem sc_good_owners : FnScope N_good_owners P_good_owners (defScope s_good_owners) := ⟨rfl, rfl, rfl, by decide +kernel, rfl, by decide +kernel, by decide +kernel⟩
theorem ok_good_owners {a : Addr} {fd : FuncData} (T : Txt P w K mg) (Fd : Fn K "good_owners" s_good_owners a fd) (hm : mg "good_owners" = some (.ref a)) (C_is_word : Cal P w K mg base (L2.CX P w) 1 "is_word" 1 f_is_word) : Cal P w K mg base (L2.CX P w) 2 "good_owners" 1 f_good_owners := by
  refine ⟨a, fd, P_good_owners, Fd.ok (CX := (L2.CX P w)) (k := 1) sc_good_owners (sp_len rfl) fun cdv A outer s H vs Q E hr h => ⟨_, ?_, body_read (b := b_good_owners) rfl h⟩, hm, Fd.kp, Fd.bindsN (fun _ _ _ _ _ _ us hl => match us, hl with | [_], _ => rfl)⟩
  exact tk_go (takes_of rfl rfl rfl rfl) fun tk => ss_cons (s_if (t_w (t_or (t_not (t_val (e_isi .tuple T.n_isinstance T.n_tuple (by decide +kernel) (e_var 0)))) (t_or1 (t_not (t_chain o_le o_le (e_int) (e_b1 (c_len) T.n_len (by decide +kernel) (e_var 0)) (e_gint' T.c_MOST_DEVICES)))))) (ss_one (s_ret (e_bl))) (ss_nil))
      (ss_cons (s_for (own := [1]) (passes_of rfl) rfl (i_any (e_var 0)) (g_name (own := [1]) 1 sc_good_owners.nd) (ss_one (s_if (t_not (t_val (e_callS C_is_word hr (by decide) tk (a_cons (e_var 1) (a_nil)) (hn := as_cons (as_nil rfl))))) (ss_one (s_ret (e_bl))) (ss_nil))))
      (ss_one (s_ret (e_bl))))
theorem sc_good_rooms : FnScope N_good_rooms P_good_rooms (defScope s_good_rooms) := ⟨rfl, rfl, rfl, by decide +kernel, rfl, by decide +kernel, by decide +kernel⟩
theorem ok_good_rooms {a : Addr} {fd : FuncData} (T : Txt P w K mg) (Fd : Fn K "good_rooms" s_good_rooms a fd) (hm : mg "good_rooms" = some (.ref a)) (C_is_word : Cal P w K mg base (L2.CX P w) 1 "is_word" 1 f_is_word) : Cal P w K mg base (L2.CX P w) 2 "good_rooms" 2 f_good_rooms := by
  refine ⟨a, fd, P_good_rooms, Fd.ok (CX := (L2.CX P w)) (k := 1) sc_good_rooms (sp_len rfl) fun cdv A outer s H vs Q E hr h => ⟨_, ?_, body_read (b := b_good_rooms) rfl h⟩, hm, Fd.kp, Fd.bindsN (fun _ _ _ _ _ _ us hl => match us, hl with | [_, _], _ => rfl)⟩
  exact tk_go (takes_of rfl rfl rfl rfl) fun tk => ss_cons (s_if (t_w (t_or (t_not (t_val (e_isi .tuple T.n_isinstance T.n_tuple (by decide +kernel) (e_var 1)))) (t_or1 (t_not (t_chain o_le o_le (e_int) (e_b1 (c_len) T.n_len (by decide +kernel) (e_var 1)) (e_gint' T.c_MOST_ROOMS)))))) (ss_one (s_ret (e_bl))) (ss_nil))
      (ss_cons (s_set 2 sc_good_rooms.nd (e_lst (a_nil)))
      (ss_cons (s_for (own := [3]) (passes_of rfl) rfl (i_any (e_var 1)) (g_name (own := [3]) 3 sc_good_rooms.nd) (ss_cons (s_if (t_w (t_or (t_not (t_val (e_isi .tuple T.n_isinstance T.n_tuple (by decide +kernel) (e_var 3)))) (t_or1 (t_cmp (o_ne hr) (e_b1 (c_len) T.n_len (by decide +kernel) (e_var 3)) (e_int))))) (ss_one (s_ret (e_bl))) (ss_nil))
      (ss_cons (s_asg (own := [4, 5]) (e_var 3) (g_tup rfl (gs_cons (g_name (own := [4, 5]) 4 sc_good_rooms.nd) (gs_cons (g_name (own := [4, 5]) 5 sc_good_rooms.nd) (gs_nil)))))
      (ss_cons (s_if (t_w (t_or (t_not (t_val (e_callS C_is_word hr (by decide) tk (a_cons (e_var 4) (a_nil)) (hn := as_cons (as_nil rfl))))) (t_or1 (t_cmp (o_in hr) (e_var 4) (e_var 2))))) (ss_one (s_ret (e_bl))) (ss_nil))
      (ss_cons (s_if (t_w (t_or (t_not (t_val (e_isi .str T.n_isinstance T.n_str (by decide +kernel) (e_var 5)))) (t_or1 (t_w (t_and (t_cmp (o_ne hr) (e_var 5) (e_str (by decide +kernel))) (t_and1 (t_cmp (o_notIn hr) (e_var 5) (e_var 0)))))))) (ss_one (s_ret (e_bl))) (ss_nil))
      (ss_one (s_expr (e_app (e_var 2) (e_var 4)))))))))
      (ss_one (s_ret (e_bl)))))
theorem sc_check_house : FnScope N_check_house P_check_house (defScope s_check_house) := ⟨rfl, rfl, rfl, by decide +kernel, rfl, by decide +kernel, by decide +kernel⟩
theorem ok_check_house {a : Addr} {fd : FuncData} (T : Txt P w K mg) (Fd : Fn K "check_house" s_check_house a fd) (hm : mg "check_house" = some (.ref a)) (C_good_owners : Cal P w K mg base (L2.CX P w) 2 "good_owners" 1 f_good_owners) (C_good_rooms : Cal P w K mg base (L2.CX P w) 2 "good_rooms" 2 f_good_rooms) : Cal P w K mg base (L2.CX P w) 3 "check_house" 1 f_check_house := by
  refine ⟨a, fd, P_check_house, Fd.ok (CX := (L2.CX P w)) (k := 2) sc_check_house (sp_len rfl) fun cdv A outer s H vs Q E hr h => ⟨_, ?_, body_read (b := b_check_house) rfl h⟩, hm, Fd.kp, Fd.bindsN (fun _ _ _ _ _ _ us hl => match us, hl with | [_], _ => rfl)⟩
  exact tk_go (takes_of rfl rfl rfl rfl) fun tk => ss_cons (s_asg (own := [1, 2]) (e_var 0) (g_tup rfl (gs_cons (g_name (own := [1, 2]) 1 sc_check_house.nd) (gs_cons (g_name (own := [1, 2]) 2 sc_check_house.nd) (gs_nil)))))
      (ss_cons (s_if (t_not (t_val (e_callS C_good_owners hr (by decide) tk (a_cons (e_var 1) (a_nil)) (hn := as_cons (as_nil rfl))))) (ss_one (s_raise T.er_BadHouse rfl hr tk (a_cons (e_int) (a_nil)))) (ss_nil))
      (ss_one (s_if (t_not (t_val (e_callS C_good_rooms hr (by decide) tk (a_cons (e_var 1) (a_cons (e_var 2) (a_nil))) (hn := as_cons (as_cons (as_nil rfl)))))) (ss_one (s_raise T.er_BadHouse rfl hr tk (a_cons (e_int) (a_nil)))) (ss_nil))))
theorem sc_people : FnScope N_people P_people (defScope s_people) := ⟨rfl, rfl, rfl, by decide +kernel, rfl, by decide +kernel, by decide +kernel⟩
theorem ok_people {a : Addr} {fd : FuncData} (T : Txt P w K mg) (Fd : Fn K "people" s_people a fd) (hm : mg "people" = some (.ref a)) : Cal P w K mg base (L2.CX P w) 1 "people" 1 f_people := by
  refine ⟨a, fd, P_people, Fd.ok (CX := (L2.CX P w)) (k := 0) sc_people (sp_len rfl) fun cdv A outer s H vs Q E hr h => ⟨_, ?_, body_read (b := b_people) rfl h⟩, hm, Fd.kp, Fd.bindsN (fun _ _ _ _ _ _ us hl => match us, hl with | [_], _ => rfl)⟩
  exact tk_go (takes_of rfl rfl rfl rfl) fun tk => ss_one (s_ret (e_sortSet rfl T.n_sorted T.n_set (e_idx (e_var 0) (e_int))))
theorem sc_devices_of : FnScope N_devices_of P_devices_of (defScope s_devices_of) := ⟨rfl, rfl, rfl, by decide +kernel, rfl, by decide +kernel, by decide +kernel⟩
theorem ok_devices_of {a : Addr} {fd : FuncData} (T : Txt P w K mg) (Fd : Fn K "devices_of" s_devices_of a fd) (hm : mg "devices_of" = some (.ref a)) : Cal P w K mg base (L2.CX P w) 1 "devices_of" 2 f_devices_of := by
  refine ⟨a, fd, P_devices_of, Fd.ok (CX := (L2.CX P w)) (k := 0) sc_devices_of (sp_len rfl) fun cdv A outer s H vs Q E hr h => ⟨_, ?_, body_read (b := b_devices_of) rfl h⟩, hm, Fd.kp, Fd.bindsN (fun _ _ _ _ _ _ us hl => match us, hl with | [_, _], _ => rfl)⟩
  exact tk_go (takes_of rfl rfl rfl rfl) fun tk => ss_cons (s_setLc 2 [("device", 3), ("owner", 4)] rfl sc_devices_of.nd (i_enum T.n_enumerate (e_idx (e_var 0) (e_int))) (blkOk_by (own := [("device", 3), ("owner", 4)]) (N := N_devices_of) (sc := defScope s_devices_of) (by decide +kernel)) (fun _ _ _ _ _ => g_tup rfl (gs_cons (g_name (own := [3, 4]) 3 sc_devices_of.nd) (gs_cons (g_name (own := [3, 4]) 4 sc_devices_of.nd) (gs_nil)))) (fun _ _ _ _ _ => cs_one (t_cmp (o_eq hr) (e_var 4) (e_var 1))) (fun _ _ _ _ _ => e_var 3))
      (ss_cons (s_if (t_not (t_tru (e_var 2))) (ss_one (s_raise T.er_UnknownPerson rfl hr tk (a_cons (e_var 1) (a_nil)))) (ss_nil))
      (ss_one (s_ret (e_var 2))))
theorem sc_room_names : FnScope N_room_names P_room_names (defScope s_room_names) := ⟨rfl, rfl, rfl, by decide +kernel, rfl, by decide +kernel, by decide +kernel⟩
theorem ok_room_names {a : Addr} {fd : FuncData} (T : Txt P w K mg) (Fd : Fn K "room_names" s_room_names a fd) (hm : mg "room_names" = some (.ref a)) : Cal P w K mg base (L2.CX P w) 1 "room_names" 1 f_room_names := by
  refine ⟨a, fd, P_room_names, Fd.ok (CX := (L2.CX P w)) (k := 0) sc_room_names (sp_len rfl) fun cdv A outer s H vs Q E hr h => ⟨_, ?_, body_read (b := b_room_names) rfl h⟩, hm, Fd.kp, Fd.bindsN (fun _ _ _ _ _ _ us hl => match us, hl with | [_], _ => rfl)⟩
  exact tk_go (takes_of rfl rfl rfl rfl) fun tk => ss_one (s_ret (e_lc [("pair", 1)] rfl sc_room_names.nd (i_any (e_idx (e_var 0) (e_int))) (blkOk_by (own := [("pair", 1)]) (N := N_room_names) (sc := defScope s_room_names) (by decide +kernel)) (fun _ _ _ _ _ => g_name (own := [1]) 1 sc_room_names.nd) (fun _ _ _ _ _ => cs_nil) (fun _ _ _ _ _ => e_idx (e_var 1) (e_int))))
theorem sc_keeper_of : FnScope N_keeper_of P_keeper_of (defScope s_keeper_of) := ⟨rfl, rfl, rfl, by decide +kernel, rfl, by decide +kernel, by decide +kernel⟩
theorem ok_keeper_of {a : Addr} {fd : FuncData} (T : Txt P w K mg) (Fd : Fn K "keeper_of" s_keeper_of a fd) (hm : mg "keeper_of" = some (.ref a)) : Cal P w K mg base (L2.CX P w) 1 "keeper_of" 2 f_keeper_of := by
  refine ⟨a, fd, P_keeper_of, Fd.ok (CX := (L2.CX P w)) (k := 0) sc_keeper_of (sp_len rfl) fun cdv A outer s H vs Q E hr h => ⟨_, ?_, body_read (b := b_keeper_of) rfl h⟩, hm, Fd.kp, Fd.bindsN (fun _ _ _ _ _ _ us hl => match us, hl with | [_, _], _ => rfl)⟩
  exact tk_go (takes_of rfl rfl rfl rfl) fun tk => ss_cons (s_for (own := [2, 3]) (passes_of rfl) rfl (i_any (e_idx (e_var 0) (e_int))) (g_tup rfl (gs_cons (g_name (own := [2, 3]) 2 sc_keeper_of.nd) (gs_cons (g_name (own := [2, 3]) 3 sc_keeper_of.nd) (gs_nil)))) (ss_one (s_if (t_cmp (o_eq hr) (e_var 2) (e_var 1)) (ss_one (s_ret (e_var 3))) (ss_nil))))
      (ss_one (s_raise T.er_UnknownRoom rfl hr tk (a_cons (e_var 1) (a_nil))))
theorem sc_droppers : FnScope N_droppers P_droppers (defScope s_droppers) := ⟨rfl, rfl, rfl, by decide +kernel, rfl, by decide +kernel, by decide +kernel⟩
theorem ok_droppers {a : Addr} {fd : FuncData} (T : Txt P w K mg) (Fd : Fn K "droppers" s_droppers a fd) (hm : mg "droppers" = some (.ref a)) (C_devices_of : Cal P w K mg base (L2.CX P w) 1 "devices_of" 2 f_devices_of) (C_keeper_of : Cal P w K mg base (L2.CX P w) 1 "keeper_of" 2 f_keeper_of) : Cal P w K mg base (L2.CX P w) 2 "droppers" 3 f_droppers := by
  refine ⟨a, fd, P_droppers, Fd.ok (CX := (L2.CX P w)) (k := 1) sc_droppers (sp_len rfl) fun cdv A outer s H vs Q E hr h => ⟨_, ?_, body_read (b := b_droppers) rfl h⟩, hm, Fd.kp, Fd.bindsN (fun _ _ _ _ _ _ us hl => match us, hl with | [_, _, _], _ => rfl)⟩
  exact tk_go (takes_of rfl rfl rfl rfl) fun tk => ss_cons (s_set 3 sc_droppers.nd (e_callS C_keeper_of hr (by decide) tk (a_cons (e_var 0) (a_cons (e_var 1) (a_nil))) (hn := as_cons (as_cons (as_nil rfl)))))
      (ss_cons (s_expr (e_callS C_devices_of hr (by decide) tk (a_cons (e_var 0) (a_cons (e_var 2) (a_nil))) (hn := as_cons (as_cons (as_nil rfl)))))
      (ss_one (s_ret (e_lc [("device", 4), ("owner", 5)] rfl sc_droppers.nd (i_enum T.n_enumerate (e_idx (e_var 0) (e_int))) (blkOk_by (own := [("device", 4), ("owner", 5)]) (N := N_droppers) (sc := defScope s_droppers) (by decide +kernel)) (fun _ _ _ _ _ => g_tup rfl (gs_cons (g_name (own := [4, 5]) 4 sc_droppers.nd) (gs_cons (g_name (own := [4, 5]) 5 sc_droppers.nd) (gs_nil)))) (fun _ _ _ _ _ => cs_one (t_cmp (o_in hr) (e_var 5) (e_tup (a_cons (e_var 2) (a_cons (e_var 3) (a_nil)))))) (fun _ _ _ _ _ => e_var 4)))))
theorem sc__law_seed : FnScope N__law_seed P__law_seed (defScope s__law_seed) := ⟨rfl, rfl, rfl, by decide +kernel, rfl, by decide +kernel, by decide +kernel⟩
theorem ok__law_seed {a : Addr} {fd : FuncData} (T : Txt P w K mg) (Fd : Fn K "_law_seed" s__law_seed a fd) (hm : mg "_law_seed" = some (.ref a)) : Cal P w K mg base (L2.CX P w) 1 "_law_seed" 1 f__law_seed := by
  refine ⟨a, fd, P__law_seed, Fd.ok (CX := (L2.CX P w)) (k := 0) sc__law_seed (sp_len rfl) fun cdv A outer s H vs Q E hr h => ⟨_, ?_, body_read (b := b__law_seed) rfl h⟩, hm, Fd.kp, Fd.bindsN (fun _ _ _ _ _ _ us hl => match us, hl with | [_], _ => rfl)⟩
  exact tk_go (takes_of rfl rfl rfl rfl) fun tk => ss_cons (s_set 1 sc__law_seed.nd (e_int))
      (ss_cons (s_for (own := [2]) (passes_of rfl) rfl (i_range1 T.n_range (e_b2 (c_min rfl) T.n_min (by decide +kernel) (e_b1 (c_len) T.n_len (by decide +kernel) (e_var 0)) (e_int))) (g_name (own := [2]) 2 sc__law_seed.nd) (ss_one (s_set 1 sc__law_seed.nd (e_op o_mod (e_t1 (c_int) T.n_int (by decide +kernel) (e_op o_add (e_op o_add (e_op o_mul (e_var 1) (e_int)) (e_op o_mod (e_t1 (c_int) T.n_int (by decide +kernel) (e_idx (e_var 0) (e_var 2))) (e_int))) (e_var 2))) (e_int)))))
      (ss_one (s_ret (e_var 1))))
theorem sc__law_source : FnScope N__law_source P__law_source (defScope s__law_source) := ⟨rfl, rfl, rfl, by decide +kernel, rfl, by decide +kernel, by decide +kernel⟩
theorem ok__law_source {a : Addr} {fd : FuncData} (T : Txt P w K mg) (Fd : Fn K "_law_source" s__law_source a fd) (hm : mg "_law_source" = some (.ref a)) (C__law_seed : Cal P w K mg base (L2.CX P w) 1 "_law_seed" 1 f__law_seed) : Cal P w K mg base (L2.CX P w) 2 "_law_source" 2 f__law_source := by
  refine ⟨a, fd, P__law_source, Fd.ok (CX := (L2.CX P w)) (k := 1) sc__law_source (sp_len rfl) fun cdv A outer s H vs Q E hr h => ⟨_, ?_, body_read (b := b__law_source) rfl h⟩, hm, Fd.kp, Fd.bindsN (fun _ _ _ _ _ _ us hl => match us, hl with | [_, _], _ => rfl)⟩
  exact tk_go (takes_of rfl rfl rfl rfl) fun tk => ss_cons (s_set 2 sc__law_source.nd (e_int))
      (ss_cons (s_if (t_cmp o_lt (e_var 1) (e_b1 (c_len) T.n_len (by decide +kernel) (e_var 0))) (ss_one (s_set 2 sc__law_source.nd (e_op o_mod (e_t1 (c_int) T.n_int (by decide +kernel) (e_idx (e_var 0) (e_var 1))) (e_op o_pow (e_op o_pow (e_int) (e_int)) (e_int))))) (ss_nil))
      (ss_cons (s_set 3 sc__law_source.nd (e_callS C__law_seed hr (by decide) tk (a_cons (e_var 0) (a_nil)) (hn := as_cons (as_nil rfl))))
      (ss_cons (s_set 4 sc__law_source.nd (e_op o_mod (e_t1 (c_int) T.n_int (by decide +kernel) (e_op o_mul (e_op o_add (e_var 3) (e_op o_mul (e_var 1) (e_int))) (e_op o_add (e_op o_add (e_op o_fdiv (e_var 3) (e_int)) (e_op o_mul (e_var 1) (e_int))) (e_int)))) (e_int)))
      (ss_one (s_ret (e_lst (a_cons (e_var 2) (a_cons (e_var 4) (a_nil)))))))))
theorem sc__law_take : FnScope N__law_take P__law_take (defScope s__law_take) := ⟨rfl, rfl, rfl, by decide +kernel, rfl, by decide +kernel, by decide +kernel⟩
theorem ok__law_take {a : Addr} {fd : FuncData} (T : Txt P w K mg) (Fd : Fn K "_law_take" s__law_take a fd) (hm : mg "_law_take" = some (.ref a)) : Cal P w K mg base (L2.CX P w) 1 "_law_take" 2 f__law_take := by
  refine ⟨a, fd, P__law_take, Fd.ok (CX := (L2.CX P w)) (k := 0) sc__law_take (sp_len rfl) fun cdv A outer s H vs Q E hr h => ⟨_, ?_, body_read (b := b__law_take) rfl h⟩, hm, Fd.kp, Fd.bindsN (fun _ _ _ _ _ _ us hl => match us, hl with | [_, _], _ => rfl)⟩
  exact tk_go (takes_of rfl rfl rfl rfl) fun tk => ss_cons (s_if (t_cmp (o_eq hr) (e_idx (e_var 0) (e_int)) (e_int)) (ss_cons (s_setI (e_op o_mod (e_t1 (c_int) T.n_int (by decide +kernel) (e_op o_add (e_op o_mul (e_idx (e_var 0) (e_int)) (e_int)) (e_int))) (e_int)) (e_var 0) (e_int) (gsub_i (e_var 0) (e_int)))
      (ss_one (s_ret (e_op o_mod (e_t1 (c_int) T.n_int (by decide +kernel) (e_op o_fdiv (e_idx (e_var 0) (e_int)) (e_int))) (e_var 1))))) (ss_nil))
      (ss_cons (s_set 2 sc__law_take.nd (e_op o_mod (e_t1 (c_int) T.n_int (by decide +kernel) (e_idx (e_var 0) (e_int))) (e_var 1)))
      (ss_cons (s_setI (e_op o_fdiv (e_idx (e_var 0) (e_int)) (e_var 1)) (e_var 0) (e_int) (gsub_i (e_var 0) (e_int)))
      (ss_one (s_ret (e_var 2)))))
theorem sc__law_word : FnScope N__law_word P__law_word (defScope s__law_word) := ⟨rfl, rfl, rfl, by decide +kernel, rfl, by decide +kernel, by decide +kernel⟩
theorem ok__law_word {a : Addr} {fd : FuncData} (T : Txt P w K mg) (Fd : Fn K "_law_word" s__law_word a fd) (hm : mg "_law_word" = some (.ref a)) (C__law_take : Cal P w K mg base (L2.CX P w) 1 "_law_take" 2 f__law_take) : Cal P w K mg base (L2.CX P w) 2 "_law_word" 2 f__law_word := by
  refine ⟨a, fd, P__law_word, Fd.ok (CX := (L2.CX P w)) (k := 1) sc__law_word (sp_len rfl) fun cdv A outer s H vs Q E hr h => ⟨_, ?_, body_read (b := b__law_word) rfl h⟩, hm, Fd.kp, Fd.bindsN (fun _ _ _ _ _ _ us hl => match us, hl with | [_, _], _ => rfl)⟩
  exact tk_go (takes_of rfl rfl rfl rfl) fun tk => ss_cons (s_set 2 sc__law_word.nd (e_str (by decide +kernel)))
      (ss_cons (s_if (t_w (t_and (t_cmp o_gt (e_b1 (c_len) T.n_len (by decide +kernel) (e_var 1)) (e_int)) (t_and1 (t_cmp (o_eq hr) (e_callS C__law_take hr (by decide) tk (a_cons (e_var 0) (a_cons (e_int) (a_nil))) (hn := as_cons (as_cons (as_nil rfl)))) (e_int))))) (ss_cons (s_set 3 sc__law_word.nd (e_idx (e_var 1) (e_callS C__law_take hr (by decide) tk (a_cons (e_var 0) (a_cons (e_b1 (c_len) T.n_len (by decide +kernel) (e_var 1)) (a_nil))) (hn := as_cons (as_cons (as_nil rfl))))))
      (ss_cons (s_set 4 sc__law_word.nd (e_callS C__law_take hr (by decide) tk (a_cons (e_var 0) (a_cons (e_b1 (c_len) T.n_len (by decide +kernel) (e_var 3)) (a_nil))) (hn := as_cons (as_cons (as_nil rfl)))))
      (ss_one (s_ret (e_op o_add (e_op o_add (e_sl (e_var 3) oo_none (oo_some (e_var 4))) (e_idx (e_var 2) (e_callS C__law_take hr (by decide) tk (a_cons (e_var 0) (a_cons (e_int) (a_nil))) (hn := as_cons (as_cons (as_nil rfl)))))) (e_sl (e_var 3) (oo_some (e_op o_add (e_var 4) (e_int))) oo_none)))))) (ss_nil))
      (ss_cons (s_set 5 sc__law_word.nd (e_str (by decide +kernel)))
      (ss_cons (s_for (own := [6]) (passes_of rfl) rfl (i_range1 T.n_range (e_op o_add (e_int) (e_callS C__law_take hr (by decide) tk (a_cons (e_var 0) (a_cons (e_int) (a_nil))) (hn := as_cons (as_cons (as_nil rfl)))))) (g_name (own := [6]) 6 sc__law_word.nd) (ss_one (s_set 5 sc__law_word.nd (e_op o_add (e_var 5) (e_idx (e_var 2) (e_callS C__law_take hr (by decide) tk (a_cons (e_var 0) (a_cons (e_int) (a_nil))) (hn := as_cons (as_cons (as_nil rfl)))))))))
      (ss_one (s_ret (e_var 5))))))
theorem sc__law_house : FnScope N__law_house P__law_house (defScope s__law_house) := ⟨rfl, rfl, rfl, by decide +kernel, rfl, by decide +kernel, by decide +kernel⟩
theorem ok__law_house {a : Addr} {fd : FuncData} (T : Txt P w K mg) (Fd : Fn K "_law_house" s__law_house a fd) (hm : mg "_law_house" = some (.ref a)) (C__law_take : Cal P w K mg base (L2.CX P w) 1 "_law_take" 2 f__law_take) (C__law_word : Cal P w K mg base (L2.CX P w) 2 "_law_word" 2 f__law_word) : Cal P w K mg base (L2.CX P w) 3 "_law_house" 1 f__law_house := by
  refine ⟨a, fd, P__law_house, Fd.ok (CX := (L2.CX P w)) (k := 2) sc__law_house (sp_len rfl) fun cdv A outer s H vs Q E hr h => ⟨_, ?_, body_read (b := b__law_house) rfl h⟩, hm, Fd.kp, Fd.bindsN (fun _ _ _ _ _ _ us hl => match us, hl with | [_], _ => rfl)⟩
  exact tk_go (takes_of rfl rfl rfl rfl) fun tk => ss_cons (s_set 1 sc__law_house.nd (e_lst (a_nil)))
      (ss_cons (s_for (own := [2]) (passes_of rfl) rfl (i_range1 T.n_range (e_op o_add (e_int) (e_callS C__law_take hr (by decide) tk (a_cons (e_var 0) (a_cons (e_int) (a_nil))) (hn := as_cons (as_cons (as_nil rfl)))))) (g_name (own := [2]) 2 sc__law_house.nd) (ss_one (s_expr (e_app (e_var 1) (e_callS C__law_word hr (by decide) tk (a_cons (e_var 0) (a_cons (e_var 1) (a_nil))) (hn := as_cons (as_cons (as_nil rfl))))))))
      (ss_cons (s_set 3 sc__law_house.nd (e_lst (a_nil)))
      (ss_cons (s_for (own := [2]) (passes_of rfl) rfl (i_range1 T.n_range (e_op o_add (e_int) (e_callS C__law_take hr (by decide) tk (a_cons (e_var 0) (a_cons (e_int) (a_nil))) (hn := as_cons (as_cons (as_nil rfl)))))) (g_name (own := [2]) 2 sc__law_house.nd) (ss_one (s_expr (e_app (e_var 3) (e_idx (e_var 1) (e_callS C__law_take hr (by decide) tk (a_cons (e_var 0) (a_cons (e_b1 (c_len) T.n_len (by decide +kernel) (e_var 1)) (a_nil))) (hn := as_cons (as_cons (as_nil rfl)))))))))
      (ss_cons (s_set 4 sc__law_house.nd (e_lst (a_nil)))
      (ss_cons (s_set 5 sc__law_house.nd (e_lst (a_nil)))
      (ss_cons (s_for (own := [2]) (passes_of rfl) rfl (i_range1 T.n_range (e_op o_add (e_int) (e_callS C__law_take hr (by decide) tk (a_cons (e_var 0) (a_cons (e_int) (a_nil))) (hn := as_cons (as_cons (as_nil rfl)))))) (g_name (own := [2]) 2 sc__law_house.nd) (ss_cons (s_set 6 sc__law_house.nd (e_callS C__law_word hr (by decide) tk (a_cons (e_var 0) (a_cons (e_op o_add (e_var 1) (e_var 5)) (a_nil))) (hn := as_cons (as_cons (as_nil rfl)))))
      (ss_cons (s_set 7 sc__law_house.nd (e_str (by decide +kernel)))
      (ss_cons (s_if (t_cmp o_gt (e_callS C__law_take hr (by decide) tk (a_cons (e_var 0) (a_cons (e_int) (a_nil))) (hn := as_cons (as_cons (as_nil rfl)))) (e_int)) (ss_one (s_set 7 sc__law_house.nd (e_idx (e_var 3) (e_callS C__law_take hr (by decide) tk (a_cons (e_var 0) (a_cons (e_b1 (c_len) T.n_len (by decide +kernel) (e_var 3)) (a_nil))) (hn := as_cons (as_cons (as_nil rfl))))))) (ss_nil))
      (ss_one (s_if (t_cmp (o_notIn hr) (e_var 6) (e_var 5)) (ss_cons (s_expr (e_app (e_var 5) (e_var 6)))
      (ss_one (s_expr (e_app (e_var 4) (e_tup (a_cons (e_var 6) (a_cons (e_var 7) (a_nil)))))))) (ss_nil)))))))
      (ss_one (s_ret (e_tup (a_cons (e_t1 (c_tuple) T.n_tuple (by decide +kernel) (e_var 3)) (a_cons (e_t1 (c_tuple) T.n_tuple (by decide +kernel) (e_var 4)) (a_nil))))))))))))
theorem sc__law_same : FnScope N__law_same P__law_same (defScope s__law_same) := ⟨rfl, rfl, rfl, by decide +kernel, rfl, by decide +kernel, by decide +kernel⟩
theorem ok__law_same {a : Addr} {fd : FuncData} (T : Txt P w K mg) (Fd : Fn K "_law_same" s__law_same a fd) (hm : mg "_law_same" = some (.ref a)) : ∀ n : Nat, Cal P w K mg base (L2.CX P w) (1 + n) "_law_same" 2 (f__law_same n)
  | 0 => cal_bad Fd.kp hm (Fd.bindsN (ps := P__law_same) (fun _ _ _ _ _ _ us hl => match us, hl with | [_, _], _ => rfl)) rfl
  | n + 1 => by
    have ih := ok__law_same T Fd hm n
    refine ⟨a, fd, P__law_same, Fd.ok (CX := (L2.CX P w)) (k := 1 + n) sc__law_same (sp_len rfl) fun cdv A outer s H vs Q E hr h => ⟨_, ?_, body_read (b := b__law_same (f__law_same n)) rfl h⟩, hm, Fd.kp, Fd.bindsN (fun _ _ _ _ _ _ us hl => match us, hl with | [_, _], _ => rfl)⟩
    exact tk_go (takes_of rfl rfl rfl rfl) fun tk => ss_cons (s_if (t_cmp o_isN (e_var 1) (e_non)) (ss_one (s_ret (e_cmp o_isN (e_var 0) (e_non)))) (ss_nil))
      (ss_cons (s_if (t_val (e_isi .bool T.n_isinstance T.n_bool (by decide +kernel) (e_var 1))) (ss_one (s_ret (e_and (e_isi .bool T.n_isinstance T.n_bool (by decide +kernel) (e_var 0)) (e_one (e_cmp (o_eq hr) (e_var 0) (e_var 1)))))) (ss_nil))
      (ss_cons (s_if (t_val (e_isi .int T.n_isinstance T.n_int (by decide +kernel) (e_var 1))) (ss_one (s_ret (e_and (e_isi .int T.n_isinstance T.n_int (by decide +kernel) (e_var 0)) (e_and (e_not (e_isi .bool T.n_isinstance T.n_bool (by decide +kernel) (e_var 0))) (e_one (e_cmp (o_eq hr) (e_var 0) (e_var 1))))))) (ss_nil))
      (ss_cons (s_if (t_val (e_isi .str T.n_isinstance T.n_str (by decide +kernel) (e_var 1))) (ss_one (s_ret (e_and (e_isi .str T.n_isinstance T.n_str (by decide +kernel) (e_var 0)) (e_one (e_cmp (o_eq hr) (e_var 0) (e_var 1)))))) (ss_nil))
      (ss_cons (s_if (t_val (e_isi .tuple T.n_isinstance T.n_tuple (by decide +kernel) (e_var 1))) (ss_one (s_if (t_w (t_or (t_not (t_val (e_isi .tuple T.n_isinstance T.n_tuple (by decide +kernel) (e_var 0)))) (t_or1 (t_cmp (o_ne hr) (e_b1 (c_len) T.n_len (by decide +kernel) (e_var 0)) (e_b1 (c_len) T.n_len (by decide +kernel) (e_var 1)))))) (ss_one (s_ret (e_bl))) (ss_nil))) (ss_one (s_if (t_w (t_or (t_not (t_val (e_isi .list T.n_isinstance T.n_list (by decide +kernel) (e_var 0)))) (t_or1 (t_cmp (o_ne hr) (e_b1 (c_len) T.n_len (by decide +kernel) (e_var 0)) (e_b1 (c_len) T.n_len (by decide +kernel) (e_var 1)))))) (ss_one (s_ret (e_bl))) (ss_nil))))
      (ss_cons (s_for (own := [2]) (passes_of rfl) rfl (i_range1 T.n_range (e_b1 (c_len) T.n_len (by decide +kernel) (e_var 1))) (g_name (own := [2]) 2 sc__law_same.nd) (ss_one (s_if (t_not (t_val (e_callS ih hr (by omega) tk (a_cons (e_idx (e_var 0) (e_var 2)) (a_cons (e_idx (e_var 1) (e_var 2)) (a_nil))) (hn := as_cons (as_cons (as_nil rfl)))))) (ss_one (s_ret (e_bl))) (ss_nil))))
      (ss_one (s_ret (e_bl))))))))
theorem sc__law_copy : FnScope N__law_copy P__law_copy (defScope s__law_copy) := ⟨rfl, rfl, rfl, by decide +kernel, rfl, by decide +kernel, by decide +kernel⟩
theorem ok__law_copy {a : Addr} {fd : FuncData} (T : Txt P w K mg) (Fd : Fn K "_law_copy" s__law_copy a fd) (hm : mg "_law_copy" = some (.ref a)) : ∀ n : Nat, Cal P w K mg base (L2.CX P w) (1 + n) "_law_copy" 1 (f__law_copy n)
  | 0 => cal_bad Fd.kp hm (Fd.bindsN (ps := P__law_copy) (fun _ _ _ _ _ _ us hl => match us, hl with | [_], _ => rfl)) rfl
  | n + 1 => by
    have ih := ok__law_copy T Fd hm n
    refine ⟨a, fd, P__law_copy, Fd.ok (CX := (L2.CX P w)) (k := 1 + n) sc__law_copy (sp_len rfl) fun cdv A outer s H vs Q E hr h => ⟨_, ?_, body_read (b := b__law_copy (f__law_copy n)) rfl h⟩, hm, Fd.kp, Fd.bindsN (fun _ _ _ _ _ _ us hl => match us, hl with | [_], _ => rfl)⟩
    exact tk_go (takes_of rfl rfl rfl rfl) fun tk => ss_cons (s_if (t_val (e_isi .list T.n_isinstance T.n_list (by decide +kernel) (e_var 0))) (ss_one (s_ret (e_lc [("part", 1)] rfl sc__law_copy.nd (i_any (e_var 0)) (blkOk_by (own := [("part", 1)]) (N := N__law_copy) (sc := defScope s__law_copy) (by decide +kernel)) (fun _ _ _ _ _ => g_name (own := [1]) 1 sc__law_copy.nd) (fun _ _ _ _ _ => cs_nil) (fun _ _ _ _ _ => e_callS ih hr (by omega) takes0 (a_cons (e_var 1) (a_nil)) (hn := as_cons (as_nil rfl)))))) (ss_nil))
      (ss_cons (s_if (t_val (e_isi .tuple T.n_isinstance T.n_tuple (by decide +kernel) (e_var 0))) (ss_one (s_ret (e_t1 (c_tuple) T.n_tuple (by decide +kernel) (e_lc [("part", 1)] rfl sc__law_copy.nd (i_any (e_var 0)) (blkOk_by (own := [("part", 1)]) (N := N__law_copy) (sc := defScope s__law_copy) (by decide +kernel)) (fun _ _ _ _ _ => g_name (own := [1]) 1 sc__law_copy.nd) (fun _ _ _ _ _ => cs_nil) (fun _ _ _ _ _ => e_callS ih hr (by omega) takes0 (a_cons (e_var 1) (a_nil)) (hn := as_cons (as_nil rfl))))))) (ss_nil))
      (ss_one (s_ret (e_var 0))))
theorem sc__law_sign : FnScope N__law_sign P__law_sign (defScope s__law_sign) := ⟨rfl, rfl, rfl, by decide +kernel, rfl, by decide +kernel, by decide +kernel⟩
theorem ok__law_sign {a : Addr} {fd : FuncData} (T : Txt P w K mg) (Fd : Fn K "_law_sign" s__law_sign a fd) (hm : mg "_law_sign" = some (.ref a)) (C__law_take : Cal P w K mg base (L2.CX P w) 1 "_law_take" 2 f__law_take) : Cal P w K mg base (L2.CX P w) 2 "_law_sign" 2 f__law_sign := by
  refine ⟨a, fd, P__law_sign, Fd.ok (CX := (L2.CX P w)) (k := 1) sc__law_sign (sp_len rfl) fun cdv A outer s H vs Q E hr h => ⟨_, ?_, body_read (b := b__law_sign) rfl h⟩, hm, Fd.kp, Fd.bindsN (fun _ _ _ _ _ _ us hl => match us, hl with | [_, _], _ => rfl)⟩
  exact tk_go (takes_of rfl rfl rfl rfl) fun tk => ss_cons (s_set 2 sc__law_sign.nd (e_str (by decide +kernel)))
      (ss_cons (s_set 3 sc__law_sign.nd (e_callS C__law_take hr (by decide) tk (a_cons (e_var 0) (a_cons (e_b1 (c_len) T.n_len (by decide +kernel) (e_var 1)) (a_nil))) (hn := as_cons (as_cons (as_nil rfl)))))
      (ss_one (s_ret (e_op o_add (e_op o_add (e_sl (e_var 1) oo_none (oo_some (e_var 3))) (e_idx (e_var 2) (e_callS C__law_take hr (by decide) tk (a_cons (e_var 0) (a_cons (e_b1 (c_len) T.n_len (by decide +kernel) (e_var 2)) (a_nil))) (hn := as_cons (as_cons (as_nil rfl)))))) (e_sl (e_var 1) (oo_some (e_op o_add (e_var 3) (e_int))) oo_none)))))
theorem sc__law_put : FnScope N__law_put P__law_put (defScope s__law_put) := ⟨rfl, rfl, rfl, by decide +kernel, rfl, by decide +kernel, by decide +kernel⟩
theorem ok__law_put {a : Addr} {fd : FuncData} (T : Txt P w K mg) (Fd : Fn K "_law_put" s__law_put a fd) (hm : mg "_law_put" = some (.ref a)) : Cal P w K mg base (L2.CX P w) 1 "_law_put" 3 f__law_put := by
  refine ⟨a, fd, P__law_put, Fd.ok (CX := (L2.CX P w)) (k := 0) sc__law_put (sp_len rfl) fun cdv A outer s H vs Q E hr h => ⟨_, ?_, body_read (b := b__law_put) rfl h⟩, hm, Fd.kp, Fd.bindsN (fun _ _ _ _ _ _ us hl => match us, hl with | [_, _, _], _ => rfl)⟩
  exact tk_go (takes_of rfl rfl rfl rfl) fun tk => ss_one (s_ret (e_op o_add (e_op o_add (e_sl (e_var 0) oo_none (oo_some (e_var 1))) (e_tup (a_cons (e_var 2) (a_nil)))) (e_sl (e_var 0) (oo_some (e_op o_add (e_var 1) (e_int))) oo_none)))
theorem sc__law_odd : FnScope N__law_odd P__law_odd (defScope s__law_odd) := ⟨rfl, rfl, rfl, by decide +kernel, rfl, by decide +kernel, by decide +kernel⟩
theorem ok__law_odd {a : Addr} {fd : FuncData} (T : Txt P w K mg) (Fd : Fn K "_law_odd" s__law_odd a fd) (hm : mg "_law_odd" = some (.ref a)) (C__law_take : Cal P w K mg base (L2.CX P w) 1 "_law_take" 2 f__law_take) : Cal P w K mg base (L2.CX P w) 2 "_law_odd" 1 f__law_odd := by
  refine ⟨a, fd, P__law_odd, Fd.ok (CX := (L2.CX P w)) (k := 1) sc__law_odd (sp_len rfl) fun cdv A outer s H vs Q E hr h => ⟨_, ?_, body_read (b := b__law_odd) rfl h⟩, hm, Fd.kp, Fd.bindsN (fun _ _ _ _ _ _ us hl => match us, hl with | [_], _ => rfl)⟩
  exact tk_go (takes_of rfl rfl rfl rfl) fun tk => ss_cons (s_set 1 sc__law_odd.nd (e_lst (a_cons (e_non) (a_cons (e_bl) (a_cons (e_bl) (a_cons (e_int) (a_cons (e_int) (a_cons (e_un o_neg (e_int)) (a_cons (e_str (by decide +kernel)) (a_cons (e_str (by decide +kernel)) (a_cons (e_str (by decide +kernel)) (a_cons (e_str (by decide +kernel)) (a_cons (e_str (by decide +kernel)) (a_cons (e_tup (a_nil)) (a_cons (e_lst (a_nil)) (a_cons (e_tup (a_cons (e_str (by decide +kernel)) (a_nil))) (a_cons (e_lst (a_cons (e_str (by decide +kernel)) (a_nil))) (a_cons (e_tup (a_cons (e_str (by decide +kernel)) (a_cons (e_str (by decide +kernel)) (a_nil)))) (a_nil)))))))))))))))))))
      (ss_one (s_ret (e_idx (e_var 1) (e_callS C__law_take hr (by decide) tk (a_cons (e_var 0) (a_cons (e_int) (a_nil))) (hn := as_cons (as_cons (as_nil rfl)))))))
theorem sc__law_spoil_owners : FnScope N__law_spoil_owners P__law_spoil_owners (defScope s__law_spoil_owners) := ⟨rfl, rfl, rfl, by decide +kernel, rfl, by decide +kernel, by decide +kernel⟩
theorem ok__law_spoil_owners {a : Addr} {fd : FuncData} (T : Txt P w K mg) (Fd : Fn K "_law_spoil_owners" s__law_spoil_owners a fd) (hm : mg "_law_spoil_owners" = some (.ref a)) (C__law_take : Cal P w K mg base (L2.CX P w) 1 "_law_take" 2 f__law_take) (C__law_sign : Cal P w K mg base (L2.CX P w) 2 "_law_sign" 2 f__law_sign) (C__law_put : Cal P w K mg base (L2.CX P w) 1 "_law_put" 3 f__law_put) (C__law_odd : Cal P w K mg base (L2.CX P w) 2 "_law_odd" 1 f__law_odd) : Cal P w K mg base (L2.CX P w) 3 "_law_spoil_owners" 2 f__law_spoil_owners := by
  refine ⟨a, fd, P__law_spoil_owners, Fd.ok (CX := (L2.CX P w)) (k := 2) sc__law_spoil_owners (sp_len rfl) fun cdv A outer s H vs Q E hr h => ⟨_, ?_, body_read (b := b__law_spoil_owners) rfl h⟩, hm, Fd.kp, Fd.bindsN (fun _ _ _ _ _ _ us hl => match us, hl with | [_, _], _ => rfl)⟩
  exact tk_go (takes_of rfl rfl rfl rfl) fun tk => ss_cons (s_set 2 sc__law_spoil_owners.nd (e_callS C__law_take hr (by decide) tk (a_cons (e_var 0) (a_cons (e_int) (a_nil))) (hn := as_cons (as_cons (as_nil rfl)))))
      (ss_cons (s_set 3 sc__law_spoil_owners.nd (e_callS C__law_take hr (by decide) tk (a_cons (e_var 0) (a_cons (e_b1 (c_len) T.n_len (by decide +kernel) (e_var 1)) (a_nil))) (hn := as_cons (as_cons (as_nil rfl)))))
      (ss_cons (s_if (t_cmp (o_eq hr) (e_var 2) (e_int)) (ss_one (s_ret (e_t1 (c_list) T.n_list (by decide +kernel) (e_var 1)))) (ss_nil))
      (ss_cons (s_if (t_cmp (o_eq hr) (e_var 2) (e_int)) (ss_one (s_ret (e_callS C__law_odd hr (by decide) tk (a_cons (e_var 0) (a_nil)) (hn := as_cons (as_nil rfl))))) (ss_nil))
      (ss_cons (s_if (t_cmp (o_eq hr) (e_var 2) (e_int)) (ss_one (s_ret (e_sl (e_op o_mul (e_var 1) (e_int)) oo_none (oo_some (e_int))))) (ss_nil))
      (ss_cons (s_if (t_cmp (o_eq hr) (e_var 2) (e_int)) (ss_one (s_ret (e_sl (e_op o_mul (e_var 1) (e_int)) oo_none (oo_some (e_int))))) (ss_nil))
      (ss_cons (s_if (t_cmp (o_eq hr) (e_var 2) (e_int)) (ss_one (s_ret (e_callS C__law_put hr (by decide) tk (a_cons (e_var 1) (a_cons (e_var 3) (a_cons (e_callS C__law_odd hr (by decide) tk (a_cons (e_var 0) (a_nil)) (hn := as_cons (as_nil rfl))) (a_nil)))) (hn := as_cons (as_cons (as_cons (as_nil rfl))))))) (ss_nil))
      (ss_one (s_ret (e_callS C__law_put hr (by decide) tk (a_cons (e_var 1) (a_cons (e_var 3) (a_cons (e_callS C__law_sign hr (by decide) tk (a_cons (e_var 0) (a_cons (e_idx (e_var 1) (e_var 3)) (a_nil))) (hn := as_cons (as_cons (as_nil rfl)))) (a_nil)))) (hn := as_cons (as_cons (as_cons (as_nil rfl)))))))))))))
theorem sc__law_more_rooms : FnScope N__law_more_rooms P__law_more_rooms (defScope s__law_more_rooms) := ⟨rfl, rfl, rfl, by decide +kernel, rfl, by decide +kernel, by decide +kernel⟩
theorem ok__law_more_rooms {a : Addr} {fd : FuncData} (T : Txt P w K mg) (Fd : Fn K "_law_more_rooms" s__law_more_rooms a fd) (hm : mg "_law_more_rooms" = some (.ref a)) : Cal P w K mg base (L2.CX P w) 1 "_law_more_rooms" 2 f__law_more_rooms := by
  refine ⟨a, fd, P__law_more_rooms, Fd.ok (CX := (L2.CX P w)) (k := 0) sc__law_more_rooms (sp_len rfl) fun cdv A outer s H vs Q E hr h => ⟨_, ?_, body_read (b := b__law_more_rooms) rfl h⟩, hm, Fd.kp, Fd.bindsN (fun _ _ _ _ _ _ us hl => match us, hl with | [_, _], _ => rfl)⟩
  exact tk_go (takes_of rfl rfl rfl rfl) fun tk => ss_cons (s_set 2 sc__law_more_rooms.nd (e_var 0))
      (ss_cons (s_for (own := [3]) (passes_of rfl) rfl (i_range1 T.n_range (e_op o_sub (e_var 1) (e_b1 (c_len) T.n_len (by decide +kernel) (e_var 0)))) (g_name (own := [3]) 3 sc__law_more_rooms.nd) (ss_one (s_set 2 sc__law_more_rooms.nd (e_op o_add (e_var 2) (e_tup (a_cons (e_tup (a_cons (e_op o_add (e_str (by decide +kernel)) (e_idx (e_str (by decide +kernel)) (e_var 3))) (a_cons (e_str (by decide +kernel)) (a_nil)))) (a_nil)))))))
      (ss_one (s_ret (e_var 2))))
theorem sc__law_spoil_rooms : FnScope N__law_spoil_rooms P__law_spoil_rooms (defScope s__law_spoil_rooms) := ⟨rfl, rfl, rfl, by decide +kernel, rfl, by decide +kernel, by decide +kernel⟩
theorem ok__law_spoil_rooms {a : Addr} {fd : FuncData} (T : Txt P w K mg) (Fd : Fn K "_law_spoil_rooms" s__law_spoil_rooms a fd) (hm : mg "_law_spoil_rooms" = some (.ref a)) (C__law_take : Cal P w K mg base (L2.CX P w) 1 "_law_take" 2 f__law_take) (C__law_sign : Cal P w K mg base (L2.CX P w) 2 "_law_sign" 2 f__law_sign) (C__law_put : Cal P w K mg base (L2.CX P w) 1 "_law_put" 3 f__law_put) (C__law_odd : Cal P w K mg base (L2.CX P w) 2 "_law_odd" 1 f__law_odd) (C__law_more_rooms : Cal P w K mg base (L2.CX P w) 1 "_law_more_rooms" 2 f__law_more_rooms) : Cal P w K mg base (L2.CX P w) 3 "_law_spoil_rooms" 3 f__law_spoil_rooms := by
  refine ⟨a, fd, P__law_spoil_rooms, Fd.ok (CX := (L2.CX P w)) (k := 2) sc__law_spoil_rooms (sp_len rfl) fun cdv A outer s H vs Q E hr h => ⟨_, ?_, body_read (b := b__law_spoil_rooms) rfl h⟩, hm, Fd.kp, Fd.bindsN (fun _ _ _ _ _ _ us hl => match us, hl with | [_, _, _], _ => rfl)⟩
  exact tk_go (takes_of rfl rfl rfl rfl) fun tk => ss_cons (s_set 3 sc__law_spoil_rooms.nd (e_callS C__law_take hr (by decide) tk (a_cons (e_var 0) (a_cons (e_int) (a_nil))) (hn := as_cons (as_cons (as_nil rfl)))))
      (ss_cons (s_set 4 sc__law_spoil_rooms.nd (e_callS C__law_take hr (by decide) tk (a_cons (e_var 0) (a_cons (e_b1 (c_len) T.n_len (by decide +kernel) (e_var 2)) (a_nil))) (hn := as_cons (as_cons (as_nil rfl)))))
      (ss_cons (s_set 5 sc__law_spoil_rooms.nd (e_idx (e_var 2) (e_var 4)))
      (ss_cons (s_if (t_cmp (o_eq hr) (e_var 3) (e_int)) (ss_one (s_ret (e_t1 (c_list) T.n_list (by decide +kernel) (e_var 2)))) (ss_nil))
      (ss_cons (s_if (t_cmp (o_eq hr) (e_var 3) (e_int)) (ss_one (s_ret (e_callS C__law_odd hr (by decide) tk (a_cons (e_var 0) (a_nil)) (hn := as_cons (as_nil rfl))))) (ss_nil))
      (ss_cons (s_if (t_cmp (o_eq hr) (e_var 3) (e_int)) (ss_one (s_ret (e_callS C__law_more_rooms hr (by decide) tk (a_cons (e_var 2) (a_cons (e_int) (a_nil))) (hn := as_cons (as_cons (as_nil rfl)))))) (ss_nil))
      (ss_cons (s_if (t_cmp (o_eq hr) (e_var 3) (e_int)) (ss_one (s_ret (e_callS C__law_more_rooms hr (by decide) tk (a_cons (e_var 2) (a_cons (e_int) (a_nil))) (hn := as_cons (as_cons (as_nil rfl)))))) (ss_nil))
      (ss_cons (s_if (t_cmp (o_eq hr) (e_var 3) (e_int)) (ss_one (s_ret (e_callS C__law_put hr (by decide) tk (a_cons (e_var 2) (a_cons (e_var 4) (a_cons (e_callS C__law_odd hr (by decide) tk (a_cons (e_var 0) (a_nil)) (hn := as_cons (as_nil rfl))) (a_nil)))) (hn := as_cons (as_cons (as_cons (as_nil rfl))))))) (ss_nil))
      (ss_cons (s_if (t_cmp (o_eq hr) (e_var 3) (e_int)) (ss_one (s_ret (e_callS C__law_put hr (by decide) tk (a_cons (e_var 2) (a_cons (e_var 4) (a_cons (e_t1 (c_list) T.n_list (by decide +kernel) (e_var 5)) (a_nil)))) (hn := as_cons (as_cons (as_cons (as_nil rfl))))))) (ss_nil))
      (ss_cons (s_if (t_cmp (o_eq hr) (e_var 3) (e_int)) (ss_one (s_ret (e_callS C__law_put hr (by decide) tk (a_cons (e_var 2) (a_cons (e_var 4) (a_cons (e_op o_add (e_var 5) (e_tup (a_cons (e_str (by decide +kernel)) (a_nil)))) (a_nil)))) (hn := as_cons (as_cons (as_cons (as_nil rfl))))))) (ss_nil))
      (ss_cons (s_if (t_cmp (o_eq hr) (e_var 3) (e_int)) (ss_one (s_ret (e_callS C__law_put hr (by decide) tk (a_cons (e_var 2) (a_cons (e_var 4) (a_cons (e_sl (e_var 5) oo_none (oo_some (e_int))) (a_nil)))) (hn := as_cons (as_cons (as_cons (as_nil rfl))))))) (ss_nil))
      (ss_cons (s_if (t_cmp (o_eq hr) (e_var 3) (e_int)) (ss_one (s_ret (e_callS C__law_put hr (by decide) tk (a_cons (e_var 2) (a_cons (e_var 4) (a_cons (e_tup (a_cons (e_callS C__law_odd hr (by decide) tk (a_cons (e_var 0) (a_nil)) (hn := as_cons (as_nil rfl))) (a_cons (e_idx (e_var 5) (e_int)) (a_nil)))) (a_nil)))) (hn := as_cons (as_cons (as_cons (as_nil rfl))))))) (ss_nil))
      (ss_cons (s_if (t_cmp (o_eq hr) (e_var 3) (e_int)) (ss_one (s_ret (e_callS C__law_put hr (by decide) tk (a_cons (e_var 2) (a_cons (e_var 4) (a_cons (e_tup (a_cons (e_callS C__law_sign hr (by decide) tk (a_cons (e_var 0) (a_cons (e_idx (e_var 5) (e_int)) (a_nil))) (hn := as_cons (as_cons (as_nil rfl)))) (a_cons (e_idx (e_var 5) (e_int)) (a_nil)))) (a_nil)))) (hn := as_cons (as_cons (as_cons (as_nil rfl))))))) (ss_nil))
      (ss_cons (s_if (t_cmp (o_eq hr) (e_var 3) (e_int)) (ss_cons (s_set 6 sc__law_spoil_rooms.nd (e_idx (e_var 2) (e_callS C__law_take hr (by decide) tk (a_cons (e_var 0) (a_cons (e_b1 (c_len) T.n_len (by decide +kernel) (e_var 2)) (a_nil))) (hn := as_cons (as_cons (as_nil rfl))))))
      (ss_one (s_ret (e_callS C__law_put hr (by decide) tk (a_cons (e_var 2) (a_cons (e_var 4) (a_cons (e_tup (a_cons (e_idx (e_var 6) (e_int)) (a_cons (e_idx (e_var 5) (e_int)) (a_nil)))) (a_nil)))) (hn := as_cons (as_cons (as_cons (as_nil rfl)))))))) (ss_nil))
      (ss_cons (s_set 7 sc__law_spoil_rooms.nd (e_lst (a_cons (e_callS C__law_odd hr (by decide) tk (a_cons (e_var 0) (a_nil)) (hn := as_cons (as_nil rfl))) (a_cons (e_callS C__law_sign hr (by decide) tk (a_cons (e_var 0) (a_cons (e_idx (e_var 1) (e_int)) (a_nil))) (hn := as_cons (as_cons (as_nil rfl)))) (a_cons (e_idx (e_var 5) (e_int)) (a_cons (e_str (by decide +kernel)) (a_nil)))))))
      (ss_one (s_ret (e_callS C__law_put hr (by decide) tk (a_cons (e_var 2) (a_cons (e_var 4) (a_cons (e_tup (a_cons (e_idx (e_var 5) (e_int)) (a_cons (e_idx (e_var 7) (e_callS C__law_take hr (by decide) tk (a_cons (e_var 0) (a_cons (e_int) (a_nil))) (hn := as_cons (as_cons (as_nil rfl))))) (a_nil)))) (a_nil)))) (hn := as_cons (as_cons (as_cons (as_nil rfl)))))))))))))))))))))
theorem sc__law_is_word : FnScope N__law_is_word P__law_is_word (defScope s__law_is_word) := ⟨rfl, rfl, rfl, by decide +kernel, rfl, by decide +kernel, by decide +kernel⟩
theorem ok__law_is_word {a : Addr} {fd : FuncData} (T : Txt P w K mg) (Fd : Fn K "_law_is_word" s__law_is_word a fd) (hm : mg "_law_is_word" = some (.ref a)) : Cal P w K mg base (L2.CX P w) 1 "_law_is_word" 1 f__law_is_word := by
  refine ⟨a, fd, P__law_is_word, Fd.ok (CX := (L2.CX P w)) (k := 0) sc__law_is_word (sp_len rfl) fun cdv A outer s H vs Q E hr h => ⟨_, ?_, body_read (b := b__law_is_word) rfl h⟩, hm, Fd.kp, Fd.bindsN (fun _ _ _ _ _ _ us hl => match us, hl with | [_], _ => rfl)⟩
  exact tk_go (takes_of rfl rfl rfl rfl) fun tk => ss_cons (s_if (t_w (t_or (t_not (t_val (e_isi .str T.n_isinstance T.n_str (by decide +kernel) (e_var 0)))) (t_or (t_cmp o_lt (e_b1 (c_len) T.n_len (by decide +kernel) (e_var 0)) (e_int)) (t_or1 (t_cmp o_gt (e_b1 (c_len) T.n_len (by decide +kernel) (e_var 0)) (e_int)))))) (ss_one (s_ret (e_bl))) (ss_nil))
      (ss_cons (s_for (own := [1]) (passes_of rfl) rfl (i_any (e_var 0)) (g_name (own := [1]) 1 sc__law_is_word.nd) (ss_one (s_if (t_cmp (o_notIn hr) (e_var 1) (e_str (by decide +kernel))) (ss_one (s_ret (e_bl))) (ss_nil))))
      (ss_one (s_ret (e_bl))))
theorem sc__law_fault : FnScope N__law_fault P__law_fault (defScope s__law_fault) := ⟨rfl, rfl, rfl, by decide +kernel, rfl, by decide +kernel, by decide +kernel⟩
theorem ok__law_fault {a : Addr} {fd : FuncData} (T : Txt P w K mg) (Fd : Fn K "_law_fault" s__law_fault a fd) (hm : mg "_law_fault" = some (.ref a)) (C__law_is_word : Cal P w K mg base (L2.CX P w) 1 "_law_is_word" 1 f__law_is_word) : Cal P w K mg base (L2.CX P w) 2 "_law_fault" 1 f__law_fault := by
  refine ⟨a, fd, P__law_fault, Fd.ok (CX := (L2.CX P w)) (k := 1) sc__law_fault (sp_len rfl) fun cdv A outer s H vs Q E hr h => ⟨_, ?_, body_read (b := b__law_fault) rfl h⟩, hm, Fd.kp, Fd.bindsN (fun _ _ _ _ _ _ us hl => match us, hl with | [_], _ => rfl)⟩
  exact tk_go (takes_of rfl rfl rfl rfl) fun tk => ss_cons (s_set 1 sc__law_fault.nd (e_idx (e_var 0) (e_int)))
      (ss_cons (s_set 2 sc__law_fault.nd (e_idx (e_var 0) (e_int)))
      (ss_cons (s_if (t_w (t_or (t_not (t_val (e_isi .tuple T.n_isinstance T.n_tuple (by decide +kernel) (e_var 1)))) (t_or (t_cmp o_lt (e_b1 (c_len) T.n_len (by decide +kernel) (e_var 1)) (e_int)) (t_or1 (t_cmp o_gt (e_b1 (c_len) T.n_len (by decide +kernel) (e_var 1)) (e_int)))))) (ss_one (s_ret (e_tup (a_cons (e_str (by decide +kernel)) (a_cons (e_int) (a_nil)))))) (ss_nil))
      (ss_cons (s_for (own := [3]) (passes_of rfl) rfl (i_any (e_var 1)) (g_name (own := [3]) 3 sc__law_fault.nd) (ss_one (s_if (t_not (t_val (e_callS C__law_is_word hr (by decide) tk (a_cons (e_var 3) (a_nil)) (hn := as_cons (as_nil rfl))))) (ss_one (s_ret (e_tup (a_cons (e_str (by decide +kernel)) (a_cons (e_int) (a_nil)))))) (ss_nil))))
      (ss_cons (s_if (t_w (t_or (t_not (t_val (e_isi .tuple T.n_isinstance T.n_tuple (by decide +kernel) (e_var 2)))) (t_or (t_cmp o_lt (e_b1 (c_len) T.n_len (by decide +kernel) (e_var 2)) (e_int)) (t_or1 (t_cmp o_gt (e_b1 (c_len) T.n_len (by decide +kernel) (e_var 2)) (e_int)))))) (ss_one (s_ret (e_tup (a_cons (e_str (by decide +kernel)) (a_cons (e_int) (a_nil)))))) (ss_nil))
      (ss_cons (s_set 4 sc__law_fault.nd (e_lst (a_nil)))
      (ss_cons (s_for (own := [5]) (passes_of rfl) rfl (i_any (e_var 2)) (g_name (own := [5]) 5 sc__law_fault.nd) (ss_cons (s_if (t_w (t_or (t_not (t_val (e_isi .tuple T.n_isinstance T.n_tuple (by decide +kernel) (e_var 5)))) (t_or1 (t_cmp (o_ne hr) (e_b1 (c_len) T.n_len (by decide +kernel) (e_var 5)) (e_int))))) (ss_one (s_ret (e_tup (a_cons (e_str (by decide +kernel)) (a_cons (e_int) (a_nil)))))) (ss_nil))
      (ss_cons (s_if (t_w (t_or (t_not (t_val (e_callS C__law_is_word hr (by decide) tk (a_cons (e_idx (e_var 5) (e_int)) (a_nil)) (hn := as_cons (as_nil rfl))))) (t_or1 (t_cmp (o_in hr) (e_idx (e_var 5) (e_int)) (e_var 4))))) (ss_one (s_ret (e_tup (a_cons (e_str (by decide +kernel)) (a_cons (e_int) (a_nil)))))) (ss_nil))
      (ss_cons (s_if (t_w (t_or (t_not (t_val (e_isi .str T.n_isinstance T.n_str (by decide +kernel) (e_idx (e_var 5) (e_int))))) (t_or1 (t_w (t_and (t_cmp (o_ne hr) (e_idx (e_var 5) (e_int)) (e_str (by decide +kernel))) (t_and1 (t_cmp (o_notIn hr) (e_idx (e_var 5) (e_int)) (e_var 1)))))))) (ss_one (s_ret (e_tup (a_cons (e_str (by decide +kernel)) (a_cons (e_int) (a_nil)))))) (ss_nil))
      (ss_one (s_expr (e_app (e_var 4) (e_idx (e_var 5) (e_int)))))))))
      (ss_one (s_ret (e_tup (a_cons (e_str (by decide +kernel)) (a_nil)))))))))))
theorem sc__law_checked : FnScope N__law_checked P__law_checked (defScope s__law_checked) := ⟨rfl, rfl, rfl, by decide +kernel, rfl, by decide +kernel, by decide +kernel⟩
theorem ok__law_checked {a : Addr} {fd : FuncData} (T : Txt P w K mg) (Fd : Fn K "_law_checked" s__law_checked a fd) (hm : mg "_law_checked" = some (.ref a)) (C_check_house : Cal P w K mg base (L2.CX P w) 3 "check_house" 1 f_check_house) : Cal P w K mg base (L2.CX P w) 4 "_law_checked" 1 f__law_checked := by
  refine ⟨a, fd, P__law_checked, Fd.ok (CX := (L2.CX P w)) (k := 3) sc__law_checked (sp_len rfl) fun cdv A outer s H vs Q E hr h => ⟨_, ?_, body_read (b := b__law_checked) rfl h⟩, hm, Fd.kp, Fd.bindsN (fun _ _ _ _ _ _ us hl => match us, hl with | [_], _ => rfl)⟩
  exact tk_go (takes_of rfl rfl rfl rfl) fun tk => ss_cons (s_set 1 sc__law_checked.nd (e_int))
      (ss_cons (s_tryAs (i := 2) rfl rfl sc__law_checked.nd tk T.g_HearsayError T.exq_HearsayError (fun W' pn xe tk po => ss_one (s_set 1 sc__law_checked.nd (e_callS C_check_house hr (by decide) tk (a_cons (e_var 0) (a_nil)) (hn := as_cons (as_nil rfl))))) (fun e a oe cls d pn hz hfl he => ss_cons (s_if (t_w (t_or (t_not (t_val (e_isE he hz hfl T.n_isinstance T.g_BadHouse T.isq_BadHouse))) (t_or1 (t_not (t_val (e_isEB he hz hfl T.n_isinstance T.n_ValueError (by decide +kernel) T.isq_ValueError)))))) (ss_one (s_ret (e_tup (a_cons (e_str (by decide +kernel)) (a_nil))))) (ss_nil))
      (ss_cons (s_if (t_w (t_or (t_val (e_isE he hz hfl T.n_isinstance T.g_UnknownRoom T.isq_UnknownRoom)) (t_or1 (t_val (e_isE he hz hfl T.n_isinstance T.g_UnknownPerson T.isq_UnknownPerson))))) (ss_one (s_ret (e_tup (a_cons (e_str (by decide +kernel)) (a_nil))))) (ss_nil))
      (ss_one (s_ret (e_tup (a_cons (e_str (by decide +kernel)) (a_cons (e_fldE he hz hfl T.flq_place) (a_nil)))))))))
      (ss_cons (s_if (t_cmp o_notN (e_var 1) (e_non)) (ss_one (s_ret (e_tup (a_cons (e_str (by decide +kernel)) (a_nil))))) (ss_nil))
      (ss_one (s_ret (e_tup (a_cons (e_str (by decide +kernel)) (a_nil)))))))
theorem sc__law_devices : FnScope N__law_devices P__law_devices (defScope s__law_devices) := ⟨rfl, rfl, rfl, by decide +kernel, rfl, by decide +kernel, by decide +kernel⟩
theorem ok__law_devices {a : Addr} {fd : FuncData} (T : Txt P w K mg) (Fd : Fn K "_law_devices" s__law_devices a fd) (hm : mg "_law_devices" = some (.ref a)) (C_devices_of : Cal P w K mg base (L2.CX P w) 1 "devices_of" 2 f_devices_of) : Cal P w K mg base (L2.CX P w) 2 "_law_devices" 2 f__law_devices := by
  refine ⟨a, fd, P__law_devices, Fd.ok (CX := (L2.CX P w)) (k := 1) sc__law_devices (sp_len rfl) fun cdv A outer s H vs Q E hr h => ⟨_, ?_, body_read (b := b__law_devices) rfl h⟩, hm, Fd.kp, Fd.bindsN (fun _ _ _ _ _ _ us hl => match us, hl with | [_, _], _ => rfl)⟩
  exact tk_go (takes_of rfl rfl rfl rfl) fun tk => ss_cons (s_set 2 sc__law_devices.nd (e_lst (a_nil)))
      (ss_cons (s_tryAs (i := 3) rfl rfl sc__law_devices.nd tk T.g_HearsayError T.exq_HearsayError (fun W' pn xe tk po => ss_one (s_set 2 sc__law_devices.nd (e_callS C_devices_of hr (by decide) tk (a_cons (e_var 0) (a_cons (e_var 1) (a_nil))) (hn := as_cons (as_cons (as_nil rfl)))))) (fun e a oe cls d pn hz hfl he => ss_cons (s_if (t_w (t_or (t_not (t_val (e_isE he hz hfl T.n_isinstance T.g_UnknownPerson T.isq_UnknownPerson))) (t_or (t_val (e_isE he hz hfl T.n_isinstance T.g_UnknownRoom T.isq_UnknownRoom)) (t_or1 (t_val (e_isE he hz hfl T.n_isinstance T.g_BadHouse T.isq_BadHouse)))))) (ss_one (s_ret (e_tup (a_cons (e_str (by decide +kernel)) (a_nil))))) (ss_nil))
      (ss_one (s_ret (e_tup (a_cons (e_str (by decide +kernel)) (a_cons (e_fldE he hz hfl T.flq_person) (a_nil))))))))
      (ss_one (s_ret (e_tup (a_cons (e_str (by decide +kernel)) (a_cons (e_var 2) (a_nil)))))))
theorem sc__law_keeper : FnScope N__law_keeper P__law_keeper (defScope s__law_keeper) := ⟨rfl, rfl, rfl, by decide +kernel, rfl, by decide +kernel, by decide +kernel⟩
theorem ok__law_keeper {a : Addr} {fd : FuncData} (T : Txt P w K mg) (Fd : Fn K "_law_keeper" s__law_keeper a fd) (hm : mg "_law_keeper" = some (.ref a)) (C_keeper_of : Cal P w K mg base (L2.CX P w) 1 "keeper_of" 2 f_keeper_of) : Cal P w K mg base (L2.CX P w) 2 "_law_keeper" 2 f__law_keeper := by
  refine ⟨a, fd, P__law_keeper, Fd.ok (CX := (L2.CX P w)) (k := 1) sc__law_keeper (sp_len rfl) fun cdv A outer s H vs Q E hr h => ⟨_, ?_, body_read (b := b__law_keeper) rfl h⟩, hm, Fd.kp, Fd.bindsN (fun _ _ _ _ _ _ us hl => match us, hl with | [_, _], _ => rfl)⟩
  exact tk_go (takes_of rfl rfl rfl rfl) fun tk => ss_cons (s_set 2 sc__law_keeper.nd (e_str (by decide +kernel)))
      (ss_cons (s_tryAs (i := 3) rfl rfl sc__law_keeper.nd tk T.g_HearsayError T.exq_HearsayError (fun W' pn xe tk po => ss_one (s_set 2 sc__law_keeper.nd (e_callS C_keeper_of hr (by decide) tk (a_cons (e_var 0) (a_cons (e_var 1) (a_nil))) (hn := as_cons (as_cons (as_nil rfl)))))) (fun e a oe cls d pn hz hfl he => ss_cons (s_if (t_w (t_or (t_not (t_val (e_isE he hz hfl T.n_isinstance T.g_UnknownRoom T.isq_UnknownRoom))) (t_or (t_val (e_isE he hz hfl T.n_isinstance T.g_UnknownPerson T.isq_UnknownPerson)) (t_or1 (t_val (e_isE he hz hfl T.n_isinstance T.g_BadHouse T.isq_BadHouse)))))) (ss_one (s_ret (e_tup (a_cons (e_str (by decide +kernel)) (a_nil))))) (ss_nil))
      (ss_one (s_ret (e_tup (a_cons (e_str (by decide +kernel)) (a_cons (e_fldE he hz hfl T.flq_room) (a_nil))))))))
      (ss_one (s_ret (e_tup (a_cons (e_str (by decide +kernel)) (a_cons (e_var 2) (a_nil)))))))
theorem sc__law_droppers : FnScope N__law_droppers P__law_droppers (defScope s__law_droppers) := ⟨rfl, rfl, rfl, by decide +kernel, rfl, by decide +kernel, by decide +kernel⟩
theorem ok__law_droppers {a : Addr} {fd : FuncData} (T : Txt P w K mg) (Fd : Fn K "_law_droppers" s__law_droppers a fd) (hm : mg "_law_droppers" = some (.ref a)) (C_droppers : Cal P w K mg base (L2.CX P w) 2 "droppers" 3 f_droppers) : Cal P w K mg base (L2.CX P w) 3 "_law_droppers" 3 f__law_droppers := by
  refine ⟨a, fd, P__law_droppers, Fd.ok (CX := (L2.CX P w)) (k := 2) sc__law_droppers (sp_len rfl) fun cdv A outer s H vs Q E hr h => ⟨_, ?_, body_read (b := b__law_droppers) rfl h⟩, hm, Fd.kp, Fd.bindsN (fun _ _ _ _ _ _ us hl => match us, hl with | [_, _, _], _ => rfl)⟩
  exact tk_go (takes_of rfl rfl rfl rfl) fun tk => ss_cons (s_set 3 sc__law_droppers.nd (e_lst (a_nil)))
      (ss_cons (s_tryAs (i := 4) rfl rfl sc__law_droppers.nd tk T.g_HearsayError T.exq_HearsayError (fun W' pn xe tk po => ss_one (s_set 3 sc__law_droppers.nd (e_callS C_droppers hr (by decide) tk (a_cons (e_var 0) (a_cons (e_var 1) (a_cons (e_var 2) (a_nil)))) (hn := as_cons (as_cons (as_cons (as_nil rfl))))))) (fun e a oe cls d pn hz hfl he => ss_cons (s_if (t_w (t_and (t_val (e_isE he hz hfl T.n_isinstance T.g_UnknownRoom T.isq_UnknownRoom)) (t_and1 (t_not (t_val (e_isE he hz hfl T.n_isinstance T.g_UnknownPerson T.isq_UnknownPerson)))))) (ss_one (s_ret (e_tup (a_cons (e_str (by decide +kernel)) (a_cons (e_fldE he hz hfl T.flq_room) (a_nil)))))) (ss_nil))
      (ss_cons (s_if (t_w (t_and (t_val (e_isE he hz hfl T.n_isinstance T.g_UnknownPerson T.isq_UnknownPerson)) (t_and1 (t_not (t_val (e_isE he hz hfl T.n_isinstance T.g_UnknownRoom T.isq_UnknownRoom)))))) (ss_one (s_ret (e_tup (a_cons (e_str (by decide +kernel)) (a_cons (e_fldE he hz hfl T.flq_person) (a_nil)))))) (ss_nil))
      (ss_one (s_ret (e_tup (a_cons (e_str (by decide +kernel)) (a_nil))))))))
      (ss_one (s_ret (e_tup (a_cons (e_str (by decide +kernel)) (a_cons (e_var 3) (a_nil)))))))
theorem sc__law_due_devices : FnScope N__law_due_devices P__law_due_devices (defScope s__law_due_devices) := ⟨rfl, rfl, rfl, by decide +kernel, rfl, by decide +kernel, by decide +kernel⟩
theorem ok__law_due_devices {a : Addr} {fd : FuncData} (T : Txt P w K mg) (Fd : Fn K "_law_due_devices" s__law_due_devices a fd) (hm : mg "_law_due_devices" = some (.ref a)) : Cal P w K mg base (L2.CX P w) 1 "_law_due_devices" 2 f__law_due_devices := by
  refine ⟨a, fd, P__law_due_devices, Fd.ok (CX := (L2.CX P w)) (k := 0) sc__law_due_devices (sp_len rfl) fun cdv A outer s H vs Q E hr h => ⟨_, ?_, body_read (b := b__law_due_devices) rfl h⟩, hm, Fd.kp, Fd.bindsN (fun _ _ _ _ _ _ us hl => match us, hl with | [_, _], _ => rfl)⟩
  exact tk_go (takes_of rfl rfl rfl rfl) fun tk => ss_cons (s_setLc 2 [("d", 3)] rfl sc__law_due_devices.nd (i_range1 T.n_range (e_b1 (c_len) T.n_len (by decide +kernel) (e_idx (e_var 0) (e_int)))) (blkOk_by (own := [("d", 3)]) (N := N__law_due_devices) (sc := defScope s__law_due_devices) (by decide +kernel)) (fun _ _ _ _ _ => g_name (own := [3]) 3 sc__law_due_devices.nd) (fun _ _ _ _ _ => cs_one (t_cmp (o_eq hr) (e_idx (e_idx (e_var 0) (e_int)) (e_var 3)) (e_var 1))) (fun _ _ _ _ _ => e_var 3))
      (ss_cons (s_if (t_cmp (o_eq hr) (e_b1 (c_len) T.n_len (by decide +kernel) (e_var 2)) (e_int)) (ss_one (s_ret (e_tup (a_cons (e_str (by decide +kernel)) (a_cons (e_var 1) (a_nil)))))) (ss_nil))
      (ss_one (s_ret (e_tup (a_cons (e_str (by decide +kernel)) (a_cons (e_var 2) (a_nil)))))))
theorem sc__law_due_keeper : FnScope N__law_due_keeper P__law_due_keeper (defScope s__law_due_keeper) := ⟨rfl, rfl, rfl, by decide +kernel, rfl, by decide +kernel, by decide +kernel⟩
theorem ok__law_due_keeper {a : Addr} {fd : FuncData} (T : Txt P w K mg) (Fd : Fn K "_law_due_keeper" s__law_due_keeper a fd) (hm : mg "_law_due_keeper" = some (.ref a)) : Cal P w K mg base (L2.CX P w) 1 "_law_due_keeper" 2 f__law_due_keeper := by
  refine ⟨a, fd, P__law_due_keeper, Fd.ok (CX := (L2.CX P w)) (k := 0) sc__law_due_keeper (sp_len rfl) fun cdv A outer s H vs Q E hr h => ⟨_, ?_, body_read (b := b__law_due_keeper) rfl h⟩, hm, Fd.kp, Fd.bindsN (fun _ _ _ _ _ _ us hl => match us, hl with | [_, _], _ => rfl)⟩
  exact tk_go (takes_of rfl rfl rfl rfl) fun tk => ss_cons (s_for (own := [2]) (passes_of rfl) rfl (i_any (e_idx (e_var 0) (e_int))) (g_name (own := [2]) 2 sc__law_due_keeper.nd) (ss_one (s_if (t_cmp (o_eq hr) (e_idx (e_var 2) (e_int)) (e_var 1)) (ss_one (s_ret (e_tup (a_cons (e_str (by decide +kernel)) (a_cons (e_idx (e_var 2) (e_int)) (a_nil)))))) (ss_nil))))
      (ss_one (s_ret (e_tup (a_cons (e_str (by decide +kernel)) (a_cons (e_var 1) (a_nil))))))
theorem sc__law_due_droppers : FnScope N__law_due_droppers P__law_due_droppers (defScope s__law_due_droppers) := ⟨rfl, rfl, rfl, by decide +kernel, rfl, by decide +kernel, by decide +kernel⟩
theorem ok__law_due_droppers {a : Addr} {fd : FuncData} (T : Txt P w K mg) (Fd : Fn K "_law_due_droppers" s__law_due_droppers a fd) (hm : mg "_law_due_droppers" = some (.ref a)) (C__law_due_keeper : Cal P w K mg base (L2.CX P w) 1 "_law_due_keeper" 2 f__law_due_keeper) : Cal P w K mg base (L2.CX P w) 2 "_law_due_droppers" 3 f__law_due_droppers := by
  refine ⟨a, fd, P__law_due_droppers, Fd.ok (CX := (L2.CX P w)) (k := 1) sc__law_due_droppers (sp_len rfl) fun cdv A outer s H vs Q E hr h => ⟨_, ?_, body_read (b := b__law_due_droppers) rfl h⟩, hm, Fd.kp, Fd.bindsN (fun _ _ _ _ _ _ us hl => match us, hl with | [_, _, _], _ => rfl)⟩
  exact tk_go (takes_of rfl rfl rfl rfl) fun tk => ss_cons (s_set 3 sc__law_due_droppers.nd (e_callS C__law_due_keeper hr (by decide) tk (a_cons (e_var 0) (a_cons (e_var 1) (a_nil))) (hn := as_cons (as_cons (as_nil rfl)))))
      (ss_cons (s_if (t_cmp (o_ne hr) (e_idx (e_var 3) (e_int)) (e_str (by decide +kernel))) (ss_one (s_ret (e_var 3))) (ss_nil))
      (ss_cons (s_if (t_cmp (o_notIn hr) (e_var 2) (e_idx (e_var 0) (e_int))) (ss_one (s_ret (e_tup (a_cons (e_str (by decide +kernel)) (a_cons (e_var 2) (a_nil)))))) (ss_nil))
      (ss_cons (s_set 4 sc__law_due_droppers.nd (e_idx (e_var 0) (e_int)))
      (ss_one (s_ret (e_tup (a_cons (e_str (by decide +kernel)) (a_cons (e_lc [("d", 5)] rfl sc__law_due_droppers.nd (i_range1 T.n_range (e_b1 (c_len) T.n_len (by decide +kernel) (e_var 4))) (blkOk_by (own := [("d", 5)]) (N := N__law_due_droppers) (sc := defScope s__law_due_droppers) (by decide +kernel)) (fun _ _ _ _ _ => g_name (own := [5]) 5 sc__law_due_droppers.nd) (fun _ _ _ _ _ => cs_one (t_w (t_or (t_cmp (o_eq hr) (e_idx (e_var 4) (e_var 5)) (e_var 2)) (t_or1 (t_cmp (o_eq hr) (e_idx (e_var 4) (e_var 5)) (e_idx (e_var 3) (e_int))))))) (fun _ _ _ _ _ => e_var 5)) (a_nil)))))))))
theorem sc__law_told_lists : FnScope N__law_told_lists P__law_told_lists (defScope s__law_told_lists) := ⟨rfl, rfl, rfl, by decide +kernel, rfl, by decide +kernel, by decide +kernel⟩
theorem ok__law_told_lists {a : Addr} {fd : FuncData} (T : Txt P w K mg) (Fd : Fn K "_law_told_lists" s__law_told_lists a fd) (hm : mg "_law_told_lists" = some (.ref a)) (C_people : Cal P w K mg base (L2.CX P w) 1 "people" 1 f_people) (C_devices_of : Cal P w K mg base (L2.CX P w) 1 "devices_of" 2 f_devices_of) (C_room_names : Cal P w K mg base (L2.CX P w) 1 "room_names" 1 f_room_names) (C_droppers : Cal P w K mg base (L2.CX P w) 2 "droppers" 3 f_droppers) : Cal P w K mg base (L2.CX P w) 3 "_law_told_lists" 3 f__law_told_lists := by
  refine ⟨a, fd, P__law_told_lists, Fd.ok (CX := (L2.CX P w)) (k := 2) sc__law_told_lists (sp_len rfl) fun cdv A outer s H vs Q E hr h => ⟨_, ?_, body_read (b := b__law_told_lists) rfl h⟩, hm, Fd.kp, Fd.bindsN (fun _ _ _ _ _ _ us hl => match us, hl with | [_, _, _], _ => rfl)⟩
  exact tk_go (takes_of rfl rfl rfl rfl) fun tk => ss_one (s_ret (e_lst (a_cons (e_callS C_people hr (by decide) tk (a_cons (e_var 0) (a_nil)) (hn := as_cons (as_nil rfl))) (a_cons (e_callS C_room_names hr (by decide) tk (a_cons (e_var 0) (a_nil)) (hn := as_cons (as_nil rfl))) (a_cons (e_callS C_devices_of hr (by decide) tk (a_cons (e_var 0) (a_cons (e_var 2) (a_nil))) (hn := as_cons (as_cons (as_nil rfl)))) (a_cons (e_callS C_droppers hr (by decide) tk (a_cons (e_var 0) (a_cons (e_var 1) (a_cons (e_var 2) (a_nil)))) (hn := as_cons (as_cons (as_cons (as_nil rfl))))) (a_nil)))))))
theorem sc__law_lists : FnScope N__law_lists P__law_lists (defScope s__law_lists) := ⟨rfl, rfl, rfl, by decide +kernel, rfl, by decide +kernel, by decide +kernel⟩
theorem ok__law_lists {a : Addr} {fd : FuncData} (T : Txt P w K mg) (Fd : Fn K "_law_lists" s__law_lists a fd) (hm : mg "_law_lists" = some (.ref a)) (C__law_same : Cal P w K mg base (L2.CX P w) 9 "_law_same" 2 (f__law_same 8)) (C__law_due_devices : Cal P w K mg base (L2.CX P w) 1 "_law_due_devices" 2 f__law_due_devices) (C__law_due_droppers : Cal P w K mg base (L2.CX P w) 2 "_law_due_droppers" 3 f__law_due_droppers) (C__law_told_lists : Cal P w K mg base (L2.CX P w) 3 "_law_told_lists" 3 f__law_told_lists) : Cal P w K mg base (L2.CX P w) 10 "_law_lists" 3 f__law_lists := by
  refine ⟨a, fd, P__law_lists, Fd.ok (CX := (L2.CX P w)) (k := 9) sc__law_lists (sp_len rfl) fun cdv A outer s H vs Q E hr h => ⟨_, ?_, body_read (b := b__law_lists) rfl h⟩, hm, Fd.kp, Fd.bindsN (fun _ _ _ _ _ _ us hl => match us, hl with | [_, _, _], _ => rfl)⟩
  exact tk_go (takes_of rfl rfl rfl rfl) fun tk => ss_cons (s_set 3 sc__law_lists.nd (e_idx (e_var 2) (e_op o_sub (e_b1 (c_len) T.n_len (by decide +kernel) (e_var 2)) (e_int))))
      (ss_cons (s_set 4 sc__law_lists.nd (e_idx (e_var 1) (e_op o_sub (e_b1 (c_len) T.n_len (by decide +kernel) (e_var 1)) (e_int))))
      (ss_cons (s_set 5 sc__law_lists.nd (e_lst (a_cons (e_t1 (c_list) T.n_list (by decide +kernel) (e_var 1)) (a_cons (e_t1 (c_list) T.n_list (by decide +kernel) (e_var 2)) (a_nil)))))
      (ss_cons (s_expr (e_app (e_var 5) (e_idx (e_callS C__law_due_devices hr (by decide) tk (a_cons (e_var 0) (a_cons (e_var 4) (a_nil))) (hn := as_cons (as_cons (as_nil rfl)))) (e_int))))
      (ss_cons (s_expr (e_app (e_var 5) (e_idx (e_callS C__law_due_droppers hr (by decide) tk (a_cons (e_var 0) (a_cons (e_var 3) (a_cons (e_var 4) (a_nil)))) (hn := as_cons (as_cons (as_cons (as_nil rfl))))) (e_int))))
      (ss_cons (s_set 6 sc__law_lists.nd (e_callS C__law_told_lists hr (by decide) tk (a_cons (e_var 0) (a_cons (e_var 3) (a_cons (e_var 4) (a_nil)))) (hn := as_cons (as_cons (as_cons (as_nil rfl))))))
      (ss_cons (s_if (t_not (t_val (e_callS C__law_same hr (by decide) tk (a_cons (e_var 6) (a_cons (e_var 5) (a_nil))) (hn := as_cons (as_cons (as_nil rfl)))))) (ss_one (s_ret (e_bl))) (ss_nil))
      (ss_cons (s_for (own := [7]) (passes_of rfl) rfl (i_range1 T.n_range (e_int)) (g_name (own := [7]) 7 sc__law_lists.nd) (ss_one (s_expr (e_app (e_idx (e_var 6) (e_var 7)) (e_str (by decide +kernel))))))
      (ss_one (s_ret (e_callS C__law_same hr (by decide) tk (a_cons (e_callS C__law_told_lists hr (by decide) tk (a_cons (e_var 0) (a_cons (e_var 3) (a_cons (e_var 4) (a_nil)))) (hn := as_cons (as_cons (as_cons (as_nil rfl))))) (a_cons (e_var 5) (a_nil))) (hn := as_cons (as_cons (as_nil rfl)))))))))))))
theorem sc__law_good : FnScope N__law_good P__law_good (defScope s__law_good) := ⟨rfl, rfl, rfl, by decide +kernel, rfl, by decide +kernel, by decide +kernel⟩
theorem ok__law_good {a : Addr} {fd : FuncData} (T : Txt P w K mg) (Fd : Fn K "_law_good" s__law_good a fd) (hm : mg "_law_good" = some (.ref a)) (C__law_word : Cal P w K mg base (L2.CX P w) 2 "_law_word" 2 f__law_word) (C__law_same : Cal P w K mg base (L2.CX P w) 9 "_law_same" 2 (f__law_same 8)) (C__law_sign : Cal P w K mg base (L2.CX P w) 2 "_law_sign" 2 f__law_sign) (C__law_devices : Cal P w K mg base (L2.CX P w) 2 "_law_devices" 2 f__law_devices) (C__law_keeper : Cal P w K mg base (L2.CX P w) 2 "_law_keeper" 2 f__law_keeper) (C__law_droppers : Cal P w K mg base (L2.CX P w) 3 "_law_droppers" 3 f__law_droppers) (C__law_due_devices : Cal P w K mg base (L2.CX P w) 1 "_law_due_devices" 2 f__law_due_devices) (C__law_due_keeper : Cal P w K mg base (L2.CX P w) 1 "_law_due_keeper" 2 f__law_due_keeper) (C__law_due_droppers : Cal P w K mg base (L2.CX P w) 2 "_law_due_droppers" 3 f__law_due_droppers) (C__law_lists : Cal P w K mg base (L2.CX P w) 10 "_law_lists" 3 f__law_lists) : Cal P w K mg base (L2.CX P w) 11 "_law_good" 2 f__law_good := by
  refine ⟨a, fd, P__law_good, Fd.ok (CX := (L2.CX P w)) (k := 10) sc__law_good (sp_len rfl) fun cdv A outer s H vs Q E hr h => ⟨_, ?_, body_read (b := b__law_good) rfl h⟩, hm, Fd.kp, Fd.bindsN (fun _ _ _ _ _ _ us hl => match us, hl with | [_, _], _ => rfl)⟩
  exact tk_go (takes_of rfl rfl rfl rfl) fun tk => ss_cons (s_set 2 sc__law_good.nd (e_lst (a_nil)))
      (ss_cons (s_for (own := [3]) (passes_of rfl) rfl (i_any (e_idx (e_var 1) (e_int))) (g_name (own := [3]) 3 sc__law_good.nd) (ss_one (s_if (t_cmp (o_notIn hr) (e_var 3) (e_var 2)) (ss_one (s_expr (e_app (e_var 2) (e_var 3)))) (ss_nil))))
      (ss_cons (s_set 2 sc__law_good.nd (e_b1 c_sorted T.n_sorted (by decide +kernel) (e_var 2)))
      (ss_cons (s_setLc 4 [("pair", 7)] rfl sc__law_good.nd (i_any (e_idx (e_var 1) (e_int))) (blkOk_by (own := [("pair", 7)]) (N := N__law_good) (sc := defScope s__law_good) (by decide +kernel)) (fun _ _ _ _ _ => g_name (own := [7]) 7 sc__law_good.nd) (fun _ _ _ _ _ => cs_nil) (fun _ _ _ _ _ => e_idx (e_var 7) (e_int)))
      (ss_cons (s_if (t_not (t_val (e_callS C__law_lists hr (by decide) tk (a_cons (e_var 1) (a_cons (e_var 2) (a_cons (e_var 4) (a_nil)))) (hn := as_cons (as_cons (as_cons (as_nil rfl))))))) (ss_one (s_ret (e_bl))) (ss_nil))
      (ss_cons (s_set 5 sc__law_good.nd (e_lst (a_cons (e_callS C__law_sign hr (by decide) tk (a_cons (e_var 0) (a_cons (e_idx (e_var 2) (e_int)) (a_nil))) (hn := as_cons (as_cons (as_nil rfl)))) (a_cons (e_callS C__law_word hr (by decide) tk (a_cons (e_var 0) (a_cons (e_op o_add (e_var 2) (e_var 4)) (a_nil))) (hn := as_cons (as_cons (as_nil rfl)))) (a_cons (e_str (by decide +kernel)) (a_nil))))))
      (ss_cons (s_for (own := [3]) (passes_of rfl) rfl (i_any (e_op o_add (e_op o_add (e_var 2) (e_sl (e_var 4) oo_none (oo_some (e_int)))) (e_var 5))) (g_name (own := [3]) 3 sc__law_good.nd) (ss_one (s_if (t_not (t_val (e_callS C__law_same hr (by decide) tk (a_cons (e_callS C__law_devices hr (by decide) tk (a_cons (e_var 1) (a_cons (e_var 3) (a_nil))) (hn := as_cons (as_cons (as_nil rfl)))) (a_cons (e_callS C__law_due_devices hr (by decide) tk (a_cons (e_var 1) (a_cons (e_var 3) (a_nil))) (hn := as_cons (as_cons (as_nil rfl)))) (a_nil))) (hn := as_cons (as_cons (as_nil rfl)))))) (ss_one (s_ret (e_bl))) (ss_nil))))
      (ss_cons (s_for (own := [6]) (passes_of rfl) rfl (i_any (e_op o_add (e_op o_add (e_var 4) (e_sl (e_var 2) oo_none (oo_some (e_int)))) (e_var 5))) (g_name (own := [6]) 6 sc__law_good.nd) (ss_cons (s_if (t_not (t_val (e_callS C__law_same hr (by decide) tk (a_cons (e_callS C__law_keeper hr (by decide) tk (a_cons (e_var 1) (a_cons (e_var 6) (a_nil))) (hn := as_cons (as_cons (as_nil rfl)))) (a_cons (e_callS C__law_due_keeper hr (by decide) tk (a_cons (e_var 1) (a_cons (e_var 6) (a_nil))) (hn := as_cons (as_cons (as_nil rfl)))) (a_nil))) (hn := as_cons (as_cons (as_nil rfl)))))) (ss_one (s_ret (e_bl))) (ss_nil))
      (ss_one (s_for (own := [3]) (passes_of rfl) rfl (i_any (e_op o_add (e_op o_add (e_var 2) (e_sl (e_var 4) oo_none (oo_some (e_int)))) (e_sl (e_var 5) oo_none (oo_some (e_int))))) (g_name (own := [3]) 3 sc__law_good.nd) (ss_one (s_if (t_not (t_val (e_callS C__law_same hr (by decide) tk (a_cons (e_callS C__law_droppers hr (by decide) tk (a_cons (e_var 1) (a_cons (e_var 6) (a_cons (e_var 3) (a_nil)))) (hn := as_cons (as_cons (as_cons (as_nil rfl))))) (a_cons (e_callS C__law_due_droppers hr (by decide) tk (a_cons (e_var 1) (a_cons (e_var 6) (a_cons (e_var 3) (a_nil)))) (hn := as_cons (as_cons (as_cons (as_nil rfl))))) (a_nil))) (hn := as_cons (as_cons (as_nil rfl)))))) (ss_one (s_ret (e_bl))) (ss_nil)))))))
      (ss_one (s_ret (e_bl))))))))))
theorem sc_law : FnScope N_law P_law (defScope s_law) := ⟨rfl, rfl, rfl, by decide +kernel, rfl, by decide +kernel, by decide +kernel⟩
theorem okF_law {a : Addr} {fd : FuncData} (T : Txt P w K mg) (Fd : Fn K "law" s_law a fd) (C__law_source : Cal P w K mg base (L2.CX P w) 2 "_law_source" 2 f__law_source) (C__law_take : Cal P w K mg base (L2.CX P w) 1 "_law_take" 2 f__law_take) (C__law_house : Cal P w K mg base (L2.CX P w) 3 "_law_house" 1 f__law_house) (C__law_same : Cal P w K mg base (L2.CX P w) 9 "_law_same" 2 (f__law_same 8)) (C__law_copy : Cal P w K mg base (L2.CX P w) 9 "_law_copy" 1 (f__law_copy 8)) (C__law_spoil_owners : Cal P w K mg base (L2.CX P w) 3 "_law_spoil_owners" 2 f__law_spoil_owners) (C__law_spoil_rooms : Cal P w K mg base (L2.CX P w) 3 "_law_spoil_rooms" 3 f__law_spoil_rooms) (C__law_fault : Cal P w K mg base (L2.CX P w) 2 "_law_fault" 1 f__law_fault) (C__law_checked : Cal P w K mg base (L2.CX P w) 4 "_law_checked" 1 f__law_checked) (C__law_good : Cal P w K mg base (L2.CX P w) 11 "_law_good" 2 f__law_good) : FnOk P w K mg base (L2.CX P w) 12 a fd P_law (spF K mg 1 f_law) := by
  refine Fd.ok (CX := (L2.CX P w)) (k := 11) sc_law (sp_len rfl) fun cdv A outer s H vs Q E hr h => ⟨_, ?_, body_read (b := b_law) rfl h⟩
  exact tk_go (takes_of rfl rfl rfl rfl) fun tk => ss_cons (s_set 1 sc_law.nd (e_callS C__law_house hr (by decide) tk (a_cons (e_callS C__law_source hr (by decide) tk (a_cons (e_var 0) (a_cons (e_int) (a_nil))) (hn := as_cons (as_cons (as_nil rfl)))) (a_nil)) (hn := as_cons (as_nil rfl))))
      (ss_cons (s_set 2 sc_law.nd (e_callS C__law_source hr (by decide) tk (a_cons (e_var 0) (a_cons (e_int) (a_nil))) (hn := as_cons (as_cons (as_nil rfl)))))
      (ss_cons (s_set 3 sc_law.nd (e_callS C__law_take hr (by decide) tk (a_cons (e_var 2) (a_cons (e_int) (a_nil))) (hn := as_cons (as_cons (as_nil rfl)))))
      (ss_cons (s_set 4 sc_law.nd (e_idx (e_var 1) (e_int)))
      (ss_cons (s_set 5 sc_law.nd (e_idx (e_var 1) (e_int)))
      (ss_cons (s_if (t_w (t_or (t_cmp (o_eq hr) (e_var 3) (e_int)) (t_or1 (t_cmp (o_eq hr) (e_var 3) (e_int))))) (ss_one (s_set 4 sc_law.nd (e_callS C__law_spoil_owners hr (by decide) tk (a_cons (e_var 2) (a_cons (e_var 4) (a_nil))) (hn := as_cons (as_cons (as_nil rfl)))))) (ss_nil))
      (ss_cons (s_if (t_cmp o_gt (e_var 3) (e_int)) (ss_one (s_set 5 sc_law.nd (e_callS C__law_spoil_rooms hr (by decide) tk (a_cons (e_var 2) (a_cons (e_idx (e_var 1) (e_int)) (a_cons (e_var 5) (a_nil)))) (hn := as_cons (as_cons (as_cons (as_nil rfl))))))) (ss_nil))
      (ss_cons (s_set 6 sc_law.nd (e_tup (a_cons (e_var 4) (a_cons (e_var 5) (a_nil)))))
      (ss_cons (s_set 7 sc_law.nd (e_callS C__law_copy hr (by decide) tk (a_cons (e_var 6) (a_nil)) (hn := as_cons (as_nil rfl))))
      (ss_cons (s_set 8 sc_law.nd (e_callS C__law_fault hr (by decide) tk (a_cons (e_var 6) (a_nil)) (hn := as_cons (as_nil rfl))))
      (ss_cons (s_if (t_w (t_or (t_not (t_val (e_callS C__law_same hr (by decide) tk (a_cons (e_callS C__law_checked hr (by decide) tk (a_cons (e_var 6) (a_nil)) (hn := as_cons (as_nil rfl))) (a_cons (e_var 8) (a_nil))) (hn := as_cons (as_cons (as_nil rfl)))))) (t_or1 (t_not (t_val (e_callS C__law_same hr (by decide) tk (a_cons (e_var 6) (a_cons (e_var 7) (a_nil))) (hn := as_cons (as_cons (as_nil rfl))))))))) (ss_one (s_ret (e_bl))) (ss_nil))
      (ss_cons (s_if (t_cmp (o_eq hr) (e_idx (e_var 8) (e_int)) (e_str (by decide +kernel))) (ss_one (s_ret (e_bl))) (ss_nil))
      (ss_one (s_ret (e_callS C__law_good hr (by decide) tk (a_cons (e_var 2) (a_cons (e_var 6) (a_nil))) (hn := as_cons (as_cons (as_nil rfl)))))))))))))))))
end
end K01
end

section
set_option Elab.async false
set_option linter.all false
set_option maxRecDepth 100000
set_option maxHeartbeats 0
namespace K01
open Py PySem L2
def d_is_word : He.DefD := ⟨("is_word", none), "is_word", "is_word", defArgs s_is_word, defBody s_is_word, defScope s_is_word, [], []⟩
def d_good_owners : He.DefD := ⟨("good_owners", none), "good_owners", "good_owners", defArgs s_good_owners, defBody s_good_owners, defScope s_good_owners, [], []⟩
def d_good_rooms : He.DefD := ⟨("good_rooms", none), "good_rooms", "good_rooms", defArgs s_good_rooms, defBody s_good_rooms, defScope s_good_rooms, [], []⟩
def d_check_house : He.DefD := ⟨("check_house", none), "check_house", "check_house", defArgs s_check_house, defBody s_check_house, defScope s_check_house, [], []⟩
def d_people : He.DefD := ⟨("people", none), "people", "people", defArgs s_people, defBody s_people, defScope s_people, [], []⟩
def d_devices_of : He.DefD := ⟨("devices_of", none), "devices_of", "devices_of", defArgs s_devices_of, defBody s_devices_of, defScope s_devices_of, [], []⟩
def d_room_names : He.DefD := ⟨("room_names", none), "room_names", "room_names", defArgs s_room_names, defBody s_room_names, defScope s_room_names, [], []⟩
def d_keeper_of : He.DefD := ⟨("keeper_of", none), "keeper_of", "keeper_of", defArgs s_keeper_of, defBody s_keeper_of, defScope s_keeper_of, [], []⟩
def d_droppers : He.DefD := ⟨("droppers", none), "droppers", "droppers", defArgs s_droppers, defBody s_droppers, defScope s_droppers, [], []⟩
def d__law_seed : He.DefD := ⟨("_law_seed", none), "_law_seed", "_law_seed", defArgs s__law_seed, defBody s__law_seed, defScope s__law_seed, [], []⟩
def d__law_source : He.DefD := ⟨("_law_source", none), "_law_source", "_law_source", defArgs s__law_source, defBody s__law_source, defScope s__law_source, [], []⟩
def d__law_take : He.DefD := ⟨("_law_take", none), "_law_take", "_law_take", defArgs s__law_take, defBody s__law_take, defScope s__law_take, [], []⟩
def d__law_word : He.DefD := ⟨("_law_word", none), "_law_word", "_law_word", defArgs s__law_word, defBody s__law_word, defScope s__law_word, [], []⟩
def d__law_house : He.DefD := ⟨("_law_house", none), "_law_house", "_law_house", defArgs s__law_house, defBody s__law_house, defScope s__law_house, [], []⟩
def d__law_same : He.DefD := ⟨("_law_same", none), "_law_same", "_law_same", defArgs s__law_same, defBody s__law_same, defScope s__law_same, [], []⟩
def d__law_copy : He.DefD := ⟨("_law_copy", none), "_law_copy", "_law_copy", defArgs s__law_copy, defBody s__law_copy, defScope s__law_copy, [], []⟩
def d__law_sign : He.DefD := ⟨("_law_sign", none), "_law_sign", "_law_sign", defArgs s__law_sign, defBody s__law_sign, defScope s__law_sign, [], []⟩
def d__law_put : He.DefD := ⟨("_law_put", none), "_law_put", "_law_put", defArgs s__law_put, defBody s__law_put, defScope s__law_put, [], []⟩
def d__law_odd : He.DefD := ⟨("_law_odd", none), "_law_odd", "_law_odd", defArgs s__law_odd, defBody s__law_odd, defScope s__law_odd, [], []⟩
def d__law_spoil_owners : He.DefD := ⟨("_law_spoil_owners", none), "_law_spoil_owners", "_law_spoil_owners", defArgs s__law_spoil_owners, defBody s__law_spoil_owners, defScope s__law_spoil_owners, [], []⟩
def d__law_more_rooms : He.DefD := ⟨("_law_more_rooms", none), "_law_more_rooms", "_law_more_rooms", defArgs s__law_more_rooms, defBody s__law_more_rooms, defScope s__law_more_rooms, [], []⟩
def d__law_spoil_rooms : He.DefD := ⟨("_law_spoil_rooms", none), "_law_spoil_rooms", "_law_spoil_rooms", defArgs s__law_spoil_rooms, defBody s__law_spoil_rooms, defScope s__law_spoil_rooms, [], []⟩
def d__law_is_word : He.DefD := ⟨("_law_is_word", none), "_law_is_word", "_law_is_word", defArgs s__law_is_word, defBody s__law_is_word, defScope s__law_is_word, [], []⟩
def d__law_fault : He.DefD := ⟨("_law_fault", none), "_law_fault", "_law_fault", defArgs s__law_fault, defBody s__law_fault, defScope s__law_fault, [], []⟩
def d__law_checked : He.DefD := ⟨("_law_checked", none), "_law_checked", "_law_checked", defArgs s__law_checked, defBody s__law_checked, defScope s__law_checked, [], []⟩
def d__law_devices : He.DefD := ⟨("_law_devices", none), "_law_devices", "_law_devices", defArgs s__law_devices, defBody s__law_devices, defScope s__law_devices, [], []⟩
def d__law_keeper : He.DefD := ⟨("_law_keeper", none), "_law_keeper", "_law_keeper", defArgs s__law_keeper, defBody s__law_keeper, defScope s__law_keeper, [], []⟩
def d__law_droppers : He.DefD := ⟨("_law_droppers", none), "_law_droppers", "_law_droppers", defArgs s__law_droppers, defBody s__law_droppers, defScope s__law_droppers, [], []⟩
def d__law_due_devices : He.DefD := ⟨("_law_due_devices", none), "_law_due_devices", "_law_due_devices", defArgs s__law_due_devices, defBody s__law_due_devices, defScope s__law_due_devices, [], []⟩
def d__law_due_keeper : He.DefD := ⟨("_law_due_keeper", none), "_law_due_keeper", "_law_due_keeper", defArgs s__law_due_keeper, defBody s__law_due_keeper, defScope s__law_due_keeper, [], []⟩
def d__law_due_droppers : He.DefD := ⟨("_law_due_droppers", none), "_law_due_droppers", "_law_due_droppers", defArgs s__law_due_droppers, defBody s__law_due_droppers, defScope s__law_due_droppers, [], []⟩
def d__law_told_lists : He.DefD := ⟨("_law_told_lists", none), "_law_told_lists", "_law_told_lists", defArgs s__law_told_lists, defBody s__law_told_lists, defScope s__law_told_lists, [], []⟩
def d__law_lists : He.DefD := ⟨("_law_lists", none), "_law_lists", "_law_lists", defArgs s__law_lists, defBody s__law_lists, defScope s__law_lists, [], []⟩
def d__law_good : He.DefD := ⟨("_law_good", none), "_law_good", "_law_good", defArgs s__law_good, defBody s__law_good, defScope s__law_good, [], []⟩
def d_law : He.DefD := ⟨("law", none), "law", "law", defArgs s_law, defBody s_law, defScope s_law, [], []⟩
def fnl : List He.DefD := [d_is_word, d_good_owners, d_good_rooms, d_check_house, d_people, d_devices_of, d_room_names, d_keeper_of, d_droppers, d__law_seed, d__law_source, d__law_take, d__law_word, d__law_house, d__law_same, d__law_copy, d__law_sign, d__law_put, d__law_odd, d__law_spoil_owners, d__law_more_rooms, d__law_spoil_rooms, d__law_is_word, d__law_fault, d__law_checked, d__law_devices, d__law_keeper, d__law_droppers, d__law_due_devices, d__law_due_keeper, d__law_due_droppers, d__law_told_lists, d__law_lists, d__law_good, d_law]
def fal : List He.Fa := [.glo "is_word", .glo "good_owners", .glo "good_rooms", .glo "check_house", .glo "people", .glo "devices_of", .glo "room_names", .glo "keeper_of", .glo "droppers", .glo "_law_seed", .glo "_law_source", .glo "_law_take", .glo "_law_word", .glo "_law_house", .glo "_law_same", .glo "_law_copy", .glo "_law_sign", .glo "_law_put", .glo "_law_odd", .glo "_law_spoil_owners", .glo "_law_more_rooms", .glo "_law_spoil_rooms", .glo "_law_is_word", .glo "_law_fault", .glo "_law_checked", .glo "_law_devices", .glo "_law_keeper", .glo "_law_droppers", .glo "_law_due_devices", .glo "_law_due_keeper", .glo "_law_due_droppers", .glo "_law_told_lists", .glo "_law_lists", .glo "_law_good", .glo "law", .free "ValueError", .free "bool", .free "enumerate", .free "int", .free "isinstance", .free "len", .free "list", .free "min", .free "range", .free "set", .free "sorted", .free "str", .free "tuple", .free "super", .str "LETTERS" (sS lit_0), .int "MOST_DEVICES" 8, .int "MOST_LETTERS" 8, .int "MOST_ROOMS" 6, .glo "BadHouse", .glo "HearsayError", .glo "UnknownPerson", .glo "UnknownRoom"]
def file : PySem.Str := PySem.Challenge.pw_hearsay_k01_houses.main.file
def e_BadHouse : PyJ.ErrD := ⟨"BadHouse", "BadHouse.__init__", defArgs s_BadHouse, defBody s_BadHouse, defScope s_BadHouse, ["place"]⟩
def e_UnknownPerson : PyJ.ErrD := ⟨"UnknownPerson", "UnknownPerson.__init__", defArgs s_UnknownPerson, defBody s_UnknownPerson, defScope s_UnknownPerson, ["person"]⟩
def e_UnknownRoom : PyJ.ErrD := ⟨"UnknownRoom", "UnknownRoom.__init__", defArgs s_UnknownRoom, defBody s_UnknownRoom, defScope s_UnknownRoom, ["room"]⟩
def errs : List PyJ.ErrD := [e_BadHouse, e_UnknownPerson, e_UnknownRoom]
def bool0 : PySem.W.Frag → Bool := PyJ.isB (fun K => .ref (He.ga K "BadHouse")) [("BadHouse", true), ("UnknownPerson", false), ("UnknownRoom", false)]
def bool1 : PySem.W.Frag → Bool := PyJ.isB (fun K => .ref (He.ga K "UnknownPerson")) [("BadHouse", false), ("UnknownPerson", true), ("UnknownRoom", false)]
def bool2 : PySem.W.Frag → Bool := PyJ.isB (fun K => .ref (He.ga K "UnknownRoom")) [("BadHouse", false), ("UnknownPerson", false), ("UnknownRoom", true)]
def bool3 : PySem.W.Frag → Bool := PyJ.isB (fun _ => .type "ValueError") [("BadHouse", true), ("UnknownPerson", true), ("UnknownRoom", true)]
def bool4 : PySem.W.Frag → Bool := PyJ.exB (fun K => .ref (He.ga K "HearsayError")) [("BadHouse", true), ("UnknownPerson", true), ("UnknownRoom", true)]
def bool5 : PySem.W.Frag → Bool := PyJ.flB "person" ["UnknownPerson"]
def bool6 : PySem.W.Frag → Bool := PyJ.flB "place" ["BadHouse"]
def bool7 : PySem.W.Frag → Bool := PyJ.flB "room" ["UnknownRoom"]
def bools : List (PySem.W.Frag → Bool) := [bool0, bool1, bool2, bool3, bool4, bool5, bool6, bool7]
abbrev R : PySem.W.OpenRow := PySem.W.OpenLaw.row PySem.Challenge.rw_hearsay_k01_houses
abbrev hk : PySem.W.Hook := PyJ.hookX 4 fal fnl file errs bools
def ob (s : PySem.W.SharedT) : PyJ.AlX := PyJ.obsXG 4 fal fnl file errs bools (HandSHeadRun.getT s)
theorem ob_eq (s : PySem.W.SharedT) : ob s = hk.obs s.abs := PyJ.obsXG_eq (HandSHeadRun.getT_eq s)
def lo0 : List PySem.Str := [(PySem.Str.ofString "HearsayError"), (PySem.Str.ofString "BadHouse"), (PySem.Str.ofString "UnknownPerson"), (PySem.Str.ofString "UnknownRoom"), (PySem.Str.ofString "LETTERS"), (PySem.Str.ofString "MOST_DEVICES"), (PySem.Str.ofString "MOST_ROOMS"), (PySem.Str.ofString "MOST_LETTERS"), (PySem.Str.ofString "is_word"), (PySem.Str.ofString "good_owners"), (PySem.Str.ofString "good_rooms"), (PySem.Str.ofString "check_house"), (PySem.Str.ofString "people"), (PySem.Str.ofString "devices_of"), (PySem.Str.ofString "room_names"), (PySem.Str.ofString "keeper_of"), (PySem.Str.ofString "droppers"), (PySem.Str.ofString "_law_seed"), (PySem.Str.ofString "_law_source"), (PySem.Str.ofString "_law_take"), (PySem.Str.ofString "_law_word"), (PySem.Str.ofString "_law_house"), (PySem.Str.ofString "_law_same"), (PySem.Str.ofString "_law_copy"), (PySem.Str.ofString "_law_sign"), (PySem.Str.ofString "_law_put"), (PySem.Str.ofString "_law_odd"), (PySem.Str.ofString "_law_spoil_owners"), (PySem.Str.ofString "_law_more_rooms"), (PySem.Str.ofString "_law_spoil_rooms"), (PySem.Str.ofString "_law_is_word"), (PySem.Str.ofString "_law_fault"), (PySem.Str.ofString "_law_checked"), (PySem.Str.ofString "_law_devices"), (PySem.Str.ofString "_law_keeper"), (PySem.Str.ofString "_law_droppers"), (PySem.Str.ofString "_law_due_devices"), (PySem.Str.ofString "_law_due_keeper"), (PySem.Str.ofString "_law_due_droppers"), (PySem.Str.ofString "_law_told_lists")]
def lo1 : List PySem.Str := [(PySem.Str.ofString "_law_lists"), (PySem.Str.ofString "_law_good")]
def loose : List PySem.Str := lo0 ++ lo1
theorem run (w : World) : HandSHeadRun.RunEq R (PySem.W.view R.prog [45]) hk ob 4000 loose w := by
  intro os
  kernel_rfl
/-- all defs, from the facts -/
theorem all {P : Program} (hP : ((P.main.file : PySem.Str) == file) = true) (htop : (P.main.scope.names.lookup ("super" : PySem.Str)).isSome = false) {w : World} {K : PySem.W.Frag} {h : Heap} {mg : Str → Option Value} {fa : Addr} (X : K.In h) (G : h.Ns mainGlobals mg) (hfa : mg ("law" : Str) = some (.ref fa)) (cx : PyJ.SaysX fal fnl file errs bools K) :
    ∃ fd : FuncData, (∀ (s : Shared) (v : Value), BindsTo s fd ⟨[v], []⟩ [("script", v)]) ∧ ∀ base : Heap, K.In base → base.Ns mainGlobals mg → FnOk P w K mg base (L2.CX P w) 12 fa fd ["script"] (spF K mg 1 f_law) := by
  have c := cx.d
  have h_n_ValueError := He.free_ok X G (c.fact 35 rfl)
  have h_n_bool := He.free_ok X G (c.fact 36 rfl)
  have h_n_enumerate := He.free_ok X G (c.fact 37 rfl)
  have h_n_int := He.free_ok X G (c.fact 38 rfl)
  have h_n_isinstance := He.free_ok X G (c.fact 39 rfl)
  have h_n_len := He.free_ok X G (c.fact 40 rfl)
  have h_n_list := He.free_ok X G (c.fact 41 rfl)
  have h_n_min := He.free_ok X G (c.fact 42 rfl)
  have h_n_range := He.free_ok X G (c.fact 43 rfl)
  have h_n_set := He.free_ok X G (c.fact 44 rfl)
  have h_n_sorted := He.free_ok X G (c.fact 45 rfl)
  have h_n_str := He.free_ok X G (c.fact 46 rfl)
  have h_n_tuple := He.free_ok X G (c.fact 47 rfl)
  have h_n_super := He.free_ok X G (c.fact 48 rfl)
  have h_c_LETTERS := He.str_ok X G (c.fact 49 rfl)
  have h_c_MOST_DEVICES := He.int_ok X G (c.fact 50 rfl)
  have h_c_MOST_LETTERS := He.int_ok X G (c.fact 51 rfl)
  have h_c_MOST_ROOMS := He.int_ok X G (c.fact 52 rfl)
  have h_g_BadHouse := He.glo_ok X G (c.fact 53 rfl)
  have h_g_HearsayError := He.glo_ok X G (c.fact 54 rfl)
  have h_g_UnknownPerson := He.glo_ok X G (c.fact 55 rfl)
  have h_g_UnknownRoom := He.glo_ok X G (c.fact 56 rfl)
  have h_er_BadHouse := errC_BadHouse (w := w) (cx.err hP htop 0 (d := e_BadHouse) rfl).2 (PySem.W.mg_of X G (cx.err hP htop 0 (d := e_BadHouse) rfl).1) (He.free_ok X G (c.fact 48 rfl))
  have h_er_UnknownPerson := errC_UnknownPerson (w := w) (cx.err hP htop 1 (d := e_UnknownPerson) rfl).2 (PySem.W.mg_of X G (cx.err hP htop 1 (d := e_UnknownPerson) rfl).1) (He.free_ok X G (c.fact 48 rfl))
  have h_er_UnknownRoom := errC_UnknownRoom (w := w) (cx.err hP htop 2 (d := e_UnknownRoom) rfl).2 (PySem.W.mg_of X G (cx.err hP htop 2 (d := e_UnknownRoom) rfl).1) (He.free_ok X G (c.fact 48 rfl))
  have h_isq_BadHouse := PyJ.isB_ok X G (cx.bool 0 (b := bool0) rfl)
  have h_isq_UnknownPerson := PyJ.isB_ok X G (cx.bool 1 (b := bool1) rfl)
  have h_isq_UnknownRoom := PyJ.isB_ok X G (cx.bool 2 (b := bool2) rfl)
  have h_isq_ValueError := PyJ.isB_ok X G (cx.bool 3 (b := bool3) rfl)
  have h_exq_HearsayError := PyJ.exB_ok X G (cx.bool 4 (b := bool4) rfl)
  have h_flq_person := PyJ.flB_ok X G (cx.bool 5 (b := bool5) rfl)
  have h_flq_place := PyJ.flB_ok X G (cx.bool 6 (b := bool6) rfl)
  have h_flq_room := PyJ.flB_ok X G (cx.bool 7 (b := bool7) rfl)
  have T : Txt P w K mg := ⟨h_n_ValueError, h_n_bool, h_n_enumerate, h_n_int, h_n_isinstance, h_n_len, h_n_list, h_n_min, h_n_range, h_n_set, h_n_sorted, h_n_str, h_n_tuple, h_n_super, h_c_LETTERS, h_c_MOST_DEVICES, h_c_MOST_LETTERS, h_c_MOST_ROOMS, h_g_BadHouse, h_g_HearsayError, h_g_UnknownPerson, h_g_UnknownRoom, h_er_BadHouse, h_er_UnknownPerson, h_er_UnknownRoom, h_isq_BadHouse, h_isq_UnknownPerson, h_isq_UnknownRoom, h_isq_ValueError, h_exq_HearsayError, h_flq_person, h_flq_place, h_flq_room⟩
  obtain ⟨fd_is_word, F_is_word⟩ := c.def_ 0 (d := d_is_word) rfl
  obtain ⟨fd_good_owners, F_good_owners⟩ := c.def_ 1 (d := d_good_owners) rfl
  obtain ⟨fd_good_rooms, F_good_rooms⟩ := c.def_ 2 (d := d_good_rooms) rfl
  obtain ⟨fd_check_house, F_check_house⟩ := c.def_ 3 (d := d_check_house) rfl
  obtain ⟨fd_people, F_people⟩ := c.def_ 4 (d := d_people) rfl
  obtain ⟨fd_devices_of, F_devices_of⟩ := c.def_ 5 (d := d_devices_of) rfl
  obtain ⟨fd_room_names, F_room_names⟩ := c.def_ 6 (d := d_room_names) rfl
  obtain ⟨fd_keeper_of, F_keeper_of⟩ := c.def_ 7 (d := d_keeper_of) rfl
  obtain ⟨fd_droppers, F_droppers⟩ := c.def_ 8 (d := d_droppers) rfl
  obtain ⟨fd__law_seed, F__law_seed⟩ := c.def_ 9 (d := d__law_seed) rfl
  obtain ⟨fd__law_source, F__law_source⟩ := c.def_ 10 (d := d__law_source) rfl
  obtain ⟨fd__law_take, F__law_take⟩ := c.def_ 11 (d := d__law_take) rfl
  obtain ⟨fd__law_word, F__law_word⟩ := c.def_ 12 (d := d__law_word) rfl
  obtain ⟨fd__law_house, F__law_house⟩ := c.def_ 13 (d := d__law_house) rfl
  obtain ⟨fd__law_same, F__law_same⟩ := c.def_ 14 (d := d__law_same) rfl
  obtain ⟨fd__law_copy, F__law_copy⟩ := c.def_ 15 (d := d__law_copy) rfl
  obtain ⟨fd__law_sign, F__law_sign⟩ := c.def_ 16 (d := d__law_sign) rfl
  obtain ⟨fd__law_put, F__law_put⟩ := c.def_ 17 (d := d__law_put) rfl
  obtain ⟨fd__law_odd, F__law_odd⟩ := c.def_ 18 (d := d__law_odd) rfl
  obtain ⟨fd__law_spoil_owners, F__law_spoil_owners⟩ := c.def_ 19 (d := d__law_spoil_owners) rfl
  obtain ⟨fd__law_more_rooms, F__law_more_rooms⟩ := c.def_ 20 (d := d__law_more_rooms) rfl
  obtain ⟨fd__law_spoil_rooms, F__law_spoil_rooms⟩ := c.def_ 21 (d := d__law_spoil_rooms) rfl
  obtain ⟨fd__law_is_word, F__law_is_word⟩ := c.def_ 22 (d := d__law_is_word) rfl
  obtain ⟨fd__law_fault, F__law_fault⟩ := c.def_ 23 (d := d__law_fault) rfl
  obtain ⟨fd__law_checked, F__law_checked⟩ := c.def_ 24 (d := d__law_checked) rfl
  obtain ⟨fd__law_devices, F__law_devices⟩ := c.def_ 25 (d := d__law_devices) rfl
  obtain ⟨fd__law_keeper, F__law_keeper⟩ := c.def_ 26 (d := d__law_keeper) rfl
  obtain ⟨fd__law_droppers, F__law_droppers⟩ := c.def_ 27 (d := d__law_droppers) rfl
  obtain ⟨fd__law_due_devices, F__law_due_devices⟩ := c.def_ 28 (d := d__law_due_devices) rfl
  obtain ⟨fd__law_due_keeper, F__law_due_keeper⟩ := c.def_ 29 (d := d__law_due_keeper) rfl
  obtain ⟨fd__law_due_droppers, F__law_due_droppers⟩ := c.def_ 30 (d := d__law_due_droppers) rfl
  obtain ⟨fd__law_told_lists, F__law_told_lists⟩ := c.def_ 31 (d := d__law_told_lists) rfl
  obtain ⟨fd__law_lists, F__law_lists⟩ := c.def_ 32 (d := d__law_lists) rfl
  obtain ⟨fd__law_good, F__law_good⟩ := c.def_ 33 (d := d__law_good) rfl
  obtain ⟨fd_law, F_law⟩ := c.def_ 34 (d := d_law) rfl
  have e := hfa.symm.trans (He.glo_ok X G (c.fact 34 (f := .glo "law") rfl))
  cases e
  have b := FunD.bindsA (ps := ["script"]) F_law fun _ _ _ _ _ _ us hl => match us, hl with | [_], _ => rfl
  refine ⟨fd_law, fun s v => b s [v] rfl, fun base _ _ => ?_⟩
  have C_is_word := ok_is_word (P := P) (w := w) (base := base) T F_is_word (He.glo_ok X G (c.fact 0 (f := .glo "is_word") rfl))
  have C_good_owners := ok_good_owners (P := P) (w := w) (base := base) T F_good_owners (He.glo_ok X G (c.fact 1 (f := .glo "good_owners") rfl)) C_is_word
  have C_good_rooms := ok_good_rooms (P := P) (w := w) (base := base) T F_good_rooms (He.glo_ok X G (c.fact 2 (f := .glo "good_rooms") rfl)) C_is_word
  have C_check_house := ok_check_house (P := P) (w := w) (base := base) T F_check_house (He.glo_ok X G (c.fact 3 (f := .glo "check_house") rfl)) C_good_owners C_good_rooms
  have C_people := ok_people (P := P) (w := w) (base := base) T F_people (He.glo_ok X G (c.fact 4 (f := .glo "people") rfl))
  have C_devices_of := ok_devices_of (P := P) (w := w) (base := base) T F_devices_of (He.glo_ok X G (c.fact 5 (f := .glo "devices_of") rfl))
  have C_room_names := ok_room_names (P := P) (w := w) (base := base) T F_room_names (He.glo_ok X G (c.fact 6 (f := .glo "room_names") rfl))
  have C_keeper_of := ok_keeper_of (P := P) (w := w) (base := base) T F_keeper_of (He.glo_ok X G (c.fact 7 (f := .glo "keeper_of") rfl))
  have C_droppers := ok_droppers (P := P) (w := w) (base := base) T F_droppers (He.glo_ok X G (c.fact 8 (f := .glo "droppers") rfl)) C_devices_of C_keeper_of
  have C__law_seed := ok__law_seed (P := P) (w := w) (base := base) T F__law_seed (He.glo_ok X G (c.fact 9 (f := .glo "_law_seed") rfl))
  have C__law_source := ok__law_source (P := P) (w := w) (base := base) T F__law_source (He.glo_ok X G (c.fact 10 (f := .glo "_law_source") rfl)) C__law_seed
  have C__law_take := ok__law_take (P := P) (w := w) (base := base) T F__law_take (He.glo_ok X G (c.fact 11 (f := .glo "_law_take") rfl))
  have C__law_word := ok__law_word (P := P) (w := w) (base := base) T F__law_word (He.glo_ok X G (c.fact 12 (f := .glo "_law_word") rfl)) C__law_take
  have C__law_house := ok__law_house (P := P) (w := w) (base := base) T F__law_house (He.glo_ok X G (c.fact 13 (f := .glo "_law_house") rfl)) C__law_take C__law_word
  have C__law_same := ok__law_same (P := P) (w := w) (base := base) T F__law_same (He.glo_ok X G (c.fact 14 (f := .glo "_law_same") rfl)) 8
  have C__law_copy := ok__law_copy (P := P) (w := w) (base := base) T F__law_copy (He.glo_ok X G (c.fact 15 (f := .glo "_law_copy") rfl)) 8
  have C__law_sign := ok__law_sign (P := P) (w := w) (base := base) T F__law_sign (He.glo_ok X G (c.fact 16 (f := .glo "_law_sign") rfl)) C__law_take
  have C__law_put := ok__law_put (P := P) (w := w) (base := base) T F__law_put (He.glo_ok X G (c.fact 17 (f := .glo "_law_put") rfl))
  have C__law_odd := ok__law_odd (P := P) (w := w) (base := base) T F__law_odd (He.glo_ok X G (c.fact 18 (f := .glo "_law_odd") rfl)) C__law_take
  have C__law_spoil_owners := ok__law_spoil_owners (P := P) (w := w) (base := base) T F__law_spoil_owners (He.glo_ok X G (c.fact 19 (f := .glo "_law_spoil_owners") rfl)) C__law_take C__law_sign C__law_put C__law_odd
  have C__law_more_rooms := ok__law_more_rooms (P := P) (w := w) (base := base) T F__law_more_rooms (He.glo_ok X G (c.fact 20 (f := .glo "_law_more_rooms") rfl))
  have C__law_spoil_rooms := ok__law_spoil_rooms (P := P) (w := w) (base := base) T F__law_spoil_rooms (He.glo_ok X G (c.fact 21 (f := .glo "_law_spoil_rooms") rfl)) C__law_take C__law_sign C__law_put C__law_odd C__law_more_rooms
  have C__law_is_word := ok__law_is_word (P := P) (w := w) (base := base) T F__law_is_word (He.glo_ok X G (c.fact 22 (f := .glo "_law_is_word") rfl))
  have C__law_fault := ok__law_fault (P := P) (w := w) (base := base) T F__law_fault (He.glo_ok X G (c.fact 23 (f := .glo "_law_fault") rfl)) C__law_is_word
  have C__law_checked := ok__law_checked (P := P) (w := w) (base := base) T F__law_checked (He.glo_ok X G (c.fact 24 (f := .glo "_law_checked") rfl)) C_check_house
  have C__law_devices := ok__law_devices (P := P) (w := w) (base := base) T F__law_devices (He.glo_ok X G (c.fact 25 (f := .glo "_law_devices") rfl)) C_devices_of
  have C__law_keeper := ok__law_keeper (P := P) (w := w) (base := base) T F__law_keeper (He.glo_ok X G (c.fact 26 (f := .glo "_law_keeper") rfl)) C_keeper_of
  have C__law_droppers := ok__law_droppers (P := P) (w := w) (base := base) T F__law_droppers (He.glo_ok X G (c.fact 27 (f := .glo "_law_droppers") rfl)) C_droppers
  have C__law_due_devices := ok__law_due_devices (P := P) (w := w) (base := base) T F__law_due_devices (He.glo_ok X G (c.fact 28 (f := .glo "_law_due_devices") rfl))
  have C__law_due_keeper := ok__law_due_keeper (P := P) (w := w) (base := base) T F__law_due_keeper (He.glo_ok X G (c.fact 29 (f := .glo "_law_due_keeper") rfl))
  have C__law_due_droppers := ok__law_due_droppers (P := P) (w := w) (base := base) T F__law_due_droppers (He.glo_ok X G (c.fact 30 (f := .glo "_law_due_droppers") rfl)) C__law_due_keeper
  have C__law_told_lists := ok__law_told_lists (P := P) (w := w) (base := base) T F__law_told_lists (He.glo_ok X G (c.fact 31 (f := .glo "_law_told_lists") rfl)) C_people C_devices_of C_room_names C_droppers
  have C__law_lists := ok__law_lists (P := P) (w := w) (base := base) T F__law_lists (He.glo_ok X G (c.fact 32 (f := .glo "_law_lists") rfl)) C__law_same C__law_due_devices C__law_due_droppers C__law_told_lists
  have C__law_good := ok__law_good (P := P) (w := w) (base := base) T F__law_good (He.glo_ok X G (c.fact 33 (f := .glo "_law_good") rfl)) C__law_word C__law_same C__law_sign C__law_devices C__law_keeper C__law_droppers C__law_due_devices C__law_due_keeper C__law_due_droppers C__law_lists
  exact okF_law (P := P) (w := w) (base := base) T F_law C__law_source C__law_take C__law_house C__law_same C__law_copy C__law_spoil_owners C__law_spoil_rooms C__law_fault C__law_checked C__law_good
end K01

open PySem PySem.W PySem.Calls PyProof.Rows in
theorem rw_hearsay_k01_houses_holds_of (hlaw : ∀ (is : List Int), Py.wp (K01.f_law [.ref 0] [.frz (is.map .int)]) fun v _ => v = .bl true) : PySem.Challenge.rw_hearsay_k01_houses.Holds := by
  w_on; o_law
  refine HandSHeadRun.head_any (r := OpenLaw.row PySem.Challenge.rw_hearsay_k01_houses) (q := view (OpenLaw.row PySem.Challenge.rw_hearsay_k01_houses).prog [45]) (H := K01.hk) (ob := K01.ob) (M := 4000) (loose := K01.loose) (d := HandSHeadRun.topDef (OpenLaw.row PySem.Challenge.rw_hearsay_k01_houses).prog 45) (kwd := []) K01.ob_eq
    (by kernel_rfl) (fun s => by kernel_rfl) K01.run (by kernel_rfl) (by kernel_rfl) (by kernel_rfl) (by rfl) (by first | assumption | decide +kernel) (by decide +kernel) ⟨rfl, rfl, rfl, rfl, rfl, by decide +kernel⟩ ?hw ?hc
  case hw => w_witness2
  case hc =>
    refine L2.walk_ofE (l := PySem.Challenge.rw_hearsay_k01_houses) (n := 63) (k := 12) (x := "script") (CX := L2.CX0) rfl (by decide) (by kernel_rfl) ⟨rfl, by decide, by decide⟩ ?F (fun _ _ _ _ z => z)
    intro w mg fa h Y G hmg0
    obtain ⟨K, KX, c⟩ := Y
    have hmg : mg ("law" : PySem.Str) = some (.ref fa) := by
      have e : (HandSHeadRun.topDef (OpenLaw.row PySem.Challenge.rw_hearsay_k01_houses).prog 45).name = ("law" : PySem.Str) := by kernel_rfl
      rw [← e]
      exact hmg0
    obtain ⟨fd, hb, hF⟩ := K01.all (P := (PySem.Challenge.rw_hearsay_k01_houses).prog) (by decide +kernel) (by decide +kernel) (w := w) KX G hmg c
    exact ⟨K, fd, Py.sp0 (Py.spF K mg 1 K01.f_law), KX, hb, fun H a ns hl hO hS => Py.start_sp hO hS (hlaw ns), fun base h1 h2 => Py.fn_calm (hF base h1 h2)⟩
end

section
set_option autoImplicit false
set_option linter.all false
namespace K01
open Py
/-- a house -/
def HD (os : List (List Char)) (rs : List (List Char × List Char)) : D := .tup [.tup (os.map .str), .tup (rs.map fun r => .tup [.str r.1, .str r.2])]
section
variable {n : Nat} {g g' : G} {v w : D} {p : P} {os : List (List Char)} {rs : List (List Char × List Char)}
theorem view_int {i : Int} (h : view g n v = some (.int i)) : v = .int i := by
  rcases view_inv h with ⟨rfl, e⟩ | ⟨b, rfl, e⟩ | ⟨b, rfl, e⟩ | ⟨s, rfl, e⟩ | ⟨m, ds, ps, _, rfl, e, h1⟩ | ⟨m, r, xs, ps, _, rfl, hx, e, h1⟩ <;> cases e
  rfl
theorem view_str {i : List Char} (h : view g n v = some (.str i)) : v = .str i := by
  rcases view_inv h with ⟨rfl, e⟩ | ⟨b, rfl, e⟩ | ⟨b, rfl, e⟩ | ⟨s, rfl, e⟩ | ⟨m, ds, ps, _, rfl, e, h1⟩ | ⟨m, r, xs, ps, _, rfl, hx, e, h1⟩ <;> cases e
  rfl
theorem view_non (h : view g n v = some .non) : v = .non := by
  rcases view_inv h with ⟨rfl, e⟩ | ⟨b, rfl, e⟩ | ⟨b, rfl, e⟩ | ⟨s, rfl, e⟩ | ⟨m, ds, ps, _, rfl, e, h1⟩ | ⟨m, r, xs, ps, _, rfl, hx, e, h1⟩ <;> cases e
  rfl
theorem all_views {f : D → Option P} {q : P → Bool} : ∀ {ds : List D} {ps : List P}, viewL f ds = some ps → (ds.all fun d => match f d with | some p => q p | none => false) = ps.all q
  | [], ps, h => by rw [viewL_nil.mp h]; rfl
  | d :: ds, ps, h => by
    obtain ⟨p, qs, rfl, h1, h2⟩ := viewL_cons.mp h
    simp only [List.all_cons, h1, all_views (q := q) h2]
mutual
def sm : P → Bool
  | .str s => decide (s.length ≤ 100000)
  | .tup ps => decide (ps.length ≤ 100000) && sms ps
  | .lst ps => decide (ps.length ≤ 100000) && sms ps
  | _ => true
def sms : List P → Bool
  | [] => true
  | p :: r => sm p && sms r
end
theorem sm_str {s : List Char} (h : sm (.str s) = true) : s.length ≤ LINE := by
  simp [sm] at h; unfold LINE; omega
theorem sm_mem {p : P} : ∀ {ps : List P}, sms ps = true → p ∈ ps → sm p = true
  | [], _, h => by cases h
  | q :: r, h, hm => by
    simp [sms] at h
    rcases List.mem_cons.mp hm with e | hm
    · rw [e]; exact h.1
    · exact sm_mem h.2 hm
theorem ref_room (g : G) (xs : List D) : lstOf (.ref g.length) (g ++ [.lst xs]) = some xs := lstOf_lst (by simp)
theorem views_strs (g : G) (n : Nat) (ss : List (List Char)) : viewL (view g n) (ss.map D.str) = some (ss.map P.str) := by
  induction ss with
  | nil => rfl
  | cons s ss ih => exact viewL_cons.mpr ⟨_, _, rfl, by simp [view], ih⟩
/-- a text in a list of texts -/
theorem in_strs {g : G} {r : Nat} {ss : List (List Char)} (s : List Char) (h : lstOf (.ref r) g = some (ss.map D.str)) : inD (.str s) (.ref r) g = some (decide (s ∈ ss)) := by
  have e1 : view g 60 (.str s) = some (.str s) := by simp [view]
  have e2 := views_strs g 60 ss
  have : inD (.str s) (.ref r) g = some ((ss.map P.str).any fun q => P.eqv q (.str s)) := by
    rw [inD_ref, h]
    dsimp only
    rw [e1, e2]
  rw [this]
  congr 1
  rw [Bool.eq_iff_iff]
  simp [P.eqv]
theorem in_strs_t {g : G} {ss : List (List Char)} (s : List Char) : inD (.str s) (.tup (ss.map D.str)) g = some (decide (s ∈ ss)) := by
  have : inD (.str s) (.tup (ss.map D.str)) g = some ((ss.map D.str).any fun y => eqF y (.str s)) := by
    rw [inD_tup, if_pos (by simp [flat])]
  rw [this]
  congr 1
  rw [Bool.eq_iff_iff]
  simp [eqF]
def tyP : P → Option Ty | .non => none | .bl _ => some .bool | .int _ => some .int | .str _ => some .str | .tup _ => some .tuple | .lst _ => some .list
theorem ty_is (h : view g n v = some p) : tyOf v g = some (tyP p) := by
  rcases view_inv h with ⟨rfl, rfl⟩ | ⟨b, rfl, rfl⟩ | ⟨b, rfl, rfl⟩ | ⟨s, rfl, rfl⟩ | ⟨m, ds, ps, e, rfl, rfl, h1⟩ | ⟨m, r, xs, ps, e, rfl, hx, rfl, h1⟩
  case inr.inr.inr.inr.inr => exact ty_ref hx
  all_goals rfl
def isS : P → Bool | .str _ => true | _ => false
theorem isS_str (h : isS p = true) : ∃ i, p = .str i := by
  cases p <;> simp [isS] at h
  exact ⟨_, rfl⟩
theorem isTy_str (p : P) : isTy .str (tyP p) = isS p := by cases p <;> rfl
theorem lens {k : Nat} {ds : List D} {ps : List P} {f : D → Option P} (h : viewL f ds = some ps) (hk : ps.length ≠ k) : ¬ ((ds.length : Int) = k) := by
  have := viewL_len h
  omega
end
section
variable {n : Nat} {g : G} {v w : D} {p : P} {os : List (List Char)} {rs : List (List Char × List Char)}
theorem loop_same {k : Nat} {as bs : List D} {ps : List P} {n1 n2 : Nat} {f1 f2 : D} (h1 : viewL (view g n1) as = some ps) (h2 : viewL (view g n2) bs = some ps)
    (hf1 : ∀ i : Nat, oIdx f1 (.int i) g = as[i]?) (hf2 : ∀ i : Nat, oIdx f2 (.int i) g = bs[i]?)
    (ih : ∀ (n1 n2 : Nat) (v w : D) (p : P), view g n1 v = some p → view g n2 w = some p → n1 < k → sm p = true → f__law_same k [v, w] g = .ok (.bl true) g) (hk : n1 < k) (hl : as.length ≤ 100000) (sz : ∀ q ∈ ps, sm q = true) {κ : Kt} (q : ∀ y, κ.nx [some f1, some f2, y] g) (x : Option D) :
    wpS (forGo (itL (rng 0 bs.length)).get (gName 2) (sIf (tNot (tVal (mCall (f__law_same k) (mCons (mOp (p2 oIdx) (mVar 0) (mVar 2)) (mCons (mOp (p2 oIdx) (mVar 1) (mVar 2)) (mNil)))))) (sRet (mC (.bl false))) (sNil)) ((itL (rng 0 bs.length)).n + 1) 0 [some f1, some f2, x] g) κ := by
  refine for_itL (fun i ρ g' => g' = g ∧ ∃ y, ρ = [some f1, some f2, y]) ⟨rfl, x, rfl⟩ ?_ ?_
  · rintro i d ρ _ hd ⟨rfl, y, rfl⟩
    obtain ⟨hi, rfl⟩ := rng_at hd
    refine ⟨_, rfl, ?_⟩
    have l1 := viewL_len h1
    have l2 := viewL_len h2
    obtain ⟨q1, e1, e2⟩ := viewL_get h1 (List.getElem?_eq_getElem (l := as) (i := i) (by omega))
    obtain ⟨q2, e3, e4⟩ := viewL_get h2 (List.getElem?_eq_getElem (l := bs) (i := i) (by omega))
    rw [e1] at e3
    cases e3
    have a1 := hf1 i
    have a2 := hf2 i
    rw [List.getElem?_eq_getElem (by omega)] at a1 a2
    simp [a1, a2, ih _ _ _ _ _ e2 e4 hk (sz _ (List.mem_of_getElem? e1))]
  · rintro ρ _ ⟨rfl, y, rfl⟩
    exact q y
end
theorem same_true : ∀ (k : Nat) {n1 n2 : Nat} {g : G} {v w : D} {p : P}, view g n1 v = some p → view g n2 w = some p → n1 < k → sm p = true → f__law_same k [v, w] g = .ok (.bl true) g := by
  intro k
  induction k with
  | zero => intro n1 n2 g v w p _ _ h _; omega
  | succ k ih =>
    intro n1 n2 g v w p h h' hk hz
    apply eq_ok
    unfold f__law_same
    unfold b__law_same
    rcases view_inv h with ⟨rfl, rfl⟩ | ⟨b, rfl, rfl⟩ | ⟨b, rfl, rfl⟩ | ⟨s, rfl, rfl⟩ | ⟨m, ds, ps, e, rfl, rfl, h1⟩ | ⟨m, r, xs, ps, e, rfl, hx, rfl, h1⟩
    · have := view_non h'; subst this; simp
    · have : w = .bl b := by
        rcases view_inv h' with ⟨rfl, e⟩ | ⟨b, rfl, e⟩ | ⟨b, rfl, e⟩ | ⟨s, rfl, e⟩ | ⟨m, ds, ps, _, rfl, e, h1⟩ | ⟨m, r, xs, ps, _, rfl, hx, e, h1⟩ <;> cases e
        rfl
      subst this; simp [isTy]; repeat (unfold lz; simp [isTy])
    · have := view_int h'; subst this; simp [isTy]; repeat (unfold lz; simp [isTy])
    · have := view_str h'; subst this; simp [isTy]; repeat (unfold lz; simp [isTy])
    · rcases view_inv h' with ⟨rfl, e⟩ | ⟨b, rfl, e⟩ | ⟨b, rfl, e⟩ | ⟨s, rfl, e⟩ | ⟨m2, ds2, ps2, e2, rfl, e, h2⟩ | ⟨m2, r2, xs, ps2, _, rfl, hx, e, h2⟩ <;> cases e
      have l1 := viewL_len h1
      have l2 := viewL_len h2
      have l3 : (ds.length : Int) = ds2.length := by omega
      have z : ds.length ≤ 100000 ∧ sms ps = true := by simp [sm] at hz; exact ⟨by omega, hz.2⟩
      simp [isTy]
      repeat (unfold lz; simp [isTy, l3])
      refine ⟨small_int (by omega) (by omega), ?_⟩
      have hl : ds2.length = ds.length := by omega
      exact loop_same (f1 := .tup ds) (f2 := .tup ds2) h1 h2 (fun i => atI_nat _ _) (fun i => atI_nat _ _) (fun n1 n2 v w p => ih) (by omega) z.1 (fun q hq => sm_mem z.2 hq) (fun _ => rfl) none
    · rcases view_inv h' with ⟨rfl, e⟩ | ⟨b, rfl, e⟩ | ⟨b, rfl, e⟩ | ⟨s, rfl, e⟩ | ⟨m2, ds2, ps2, e2, rfl, e, h2⟩ | ⟨m2, r2, ys, ps2, _, rfl, hy, e, h2⟩ <;> cases e
      have l1 := viewL_len h1
      have l2 := viewL_len h2
      have l3 : (xs.length : Int) = ys.length := by omega
      have z : xs.length ≤ 100000 ∧ sms ps = true := by simp [sm] at hz; exact ⟨by omega, hz.2⟩
      simp [isTy, ty_ref hy]
      repeat (unfold lz; simp [isTy, l3, ty_ref hx, ty_ref hy, len_ref hx, len_ref hy])
      refine ⟨small_int (by omega) (by omega), ?_⟩
      exact loop_same h1 h2 (fun i => by rw [idx_ref _ hx, atI_nat]) (fun i => by rw [idx_ref _ hy, atI_nat]) (fun n1 n2 v w p => ih) (by omega) z.1 (fun q hq => sm_mem z.2 hq) (fun _ => rfl) none
def CopyOk (k : Nat) : Prop := ∀ (n : Nat) (g : G) (v : D) (p : P), view g n v = some p → n < k → sm p = true → wp (f__law_copy k [v] g) fun v' g' => Only [] g g' ∧ ∀ ws : List Nat, (∀ i ∈ ws, i < g.length) → vx ws g' n v' = some p
theorem copy_lc {k m : Nat} {g : G} {ds : List D} {ps : List P} {it : Nat → G → Option (Option D)} {x y : Option D} (ih : CopyOk k) (h : viewL (view g m) ds = some ps) (hk : m < k) (hz : sms ps = true) (hl : ds.length ≤ 100000)
    (hit : ∀ i g', Only [] g g' → it i g' = some ds[i]?) {Q : D → G → Prop}
    (q : ∀ g' acc, Only [] g g' → g'[g.length]? = some (.lst acc) → (∀ ws : List Nat, (∀ i ∈ ws, i < g.length) → viewL (vx ws g' m) acc = some ps) → Q (.ref g.length) g') :
    wp (lcGo it (gName 1) tYes (mCall (f__law_copy k) (mCons (mVar 1) mNil)) [x, y] g.length (ds.length + 1) 0 (g ++ [.lst []])) Q := by
  have l := viewL_len h
  refine lc_by (ds := ds) (fun i acc g' => g'[g.length]? = some (.lst acc) ∧ Only [] g g' ∧ acc.length = i ∧ ∀ ws : List Nat, (∀ j ∈ ws, j ≤ g.length) → viewL (vx ws g' m) acc = some (ps.take i)) (fun i acc g' h => hit i g' h.2.1) (fun _ _ _ h => h.1) ?_ ?_ _ 0 [] _ rfl (Nat.zero_le _) ⟨get_snoc _ _, Only.snoc _ _ _, rfl, fun _ _ => rfl⟩
  · rintro i d acc g' hd ⟨h1, h2, h3, h4⟩
    have hi := (List.getElem?_eq_some_iff.mp hd).1
    obtain ⟨p, e1, e2⟩ := viewL_get h hd
    refine ⟨_, rfl, ?_⟩
    simp
    refine wp_imp (ih m g' d p (h2.ext.view e2) hk (sm_mem hz (List.mem_of_getElem? e1))) ?_
    rintro v' g2 ⟨o2, hv⟩
    have hr := (List.getElem?_eq_some_iff.mp h1).1
    have o3 : Only [g.length] g2 (g2.set g.length (.lst (acc ++ [v']))) := Only.set (.inl (by simp)) _
    refine ⟨acc, o2.get h1 (by simp), by unfold LINE; omega, ?_, (h2.trans o2).then o3 (by simp), by simp [h3], ?_⟩
    · rw [List.getElem?_set_self (by have := o2.len; omega)]
    · intro ws hw
      rw [List.take_add_one, e1]
      refine viewL_snoc ?_ ?_
      · refine viewL_mono (fun d p hd => ?_) (h4 (g.length :: ws) (by simpa using hw))
        exact vx_go (ws := g.length :: ws) o3 (by simp) (fun i hi => .inl (by simp [hi])) (vx_go (ws := g.length :: ws) o2 (by simp) (fun i hi => .inl hi) hd)
      · refine vx_go (ws := g.length :: ws) o3 (by simp) (fun i hi => .inl (by simp [hi])) (hv _ ?_)
        intro i hi
        rcases List.mem_cons.mp hi with rfl | hi
        · exact hr
        · have := hw i hi; omega
  · rintro acc g' ⟨h1, h2, h3, h4⟩
    refine q g' acc h2 h1 fun ws hw => ?_
    have := h4 ws fun i hi => by have := hw i hi; omega
    rw [← l, List.take_length] at this
    exact this
theorem copy_ok : ∀ k, CopyOk k := by
  intro k
  induction k with
  | zero => intro n g v p _ h; omega
  | succ k ih =>
    intro n g v p h hk hz
    unfold f__law_copy
    unfold b__law_copy
    rcases view_inv h with ⟨rfl, rfl⟩ | ⟨b, rfl, rfl⟩ | ⟨b, rfl, rfl⟩ | ⟨s, rfl, rfl⟩ | ⟨m, ds, ps, e, rfl, rfl, h1⟩ | ⟨m, r, xs, ps, e, rfl, hx, rfl, h1⟩
    · simp [isTy]; unfold lz; simp [isTy]; unfold lz; simp [vx]; exact Only.refl _ _
    · simp [isTy]; unfold lz; simp [isTy]; unfold lz; simp [vx]; exact Only.refl _ _
    · simp [isTy]; unfold lz; simp [isTy]; unfold lz; simp [vx]; exact Only.refl _ _
    · simp [isTy]; unfold lz; simp [isTy]; unfold lz; simp [vx]; exact Only.refl _ _
    · have l := viewL_len h1
      have z : ds.length ≤ 100000 ∧ sms ps = true := by simp [sm] at hz; exact ⟨by omega, hz.2⟩
      subst e
      simp [isTy]; unfold lz; simp [isTy]
      refine copy_lc ih h1 (by omega) z.2 z.1 (fun _ _ _ => rfl) fun g' acc o a q => ?_
      rw [tuple_ref (lstOf_lst a)]
      simp
      exact ⟨o, fun ws hw => vx_tup (q ws hw)⟩
    · have l := viewL_len h1
      have z : xs.length ≤ 100000 ∧ sms ps = true := by simp [sm] at hz; exact ⟨by omega, hz.2⟩
      subst e
      simp [isTy, ty_ref hx, iter_ref hx]
      refine copy_lc ih h1 (by omega) z.2 z.1 (fun i g' o => by show (lstOf (.ref r) g').map (fun xs => xs[i]?) = _; rw [o.lst hx (by simp)]; rfl) fun g' acc o a q => ?_
      refine ⟨o, fun ws hw => vx_lst (fun hm => ?_) (lstOf_lst a) (q ws hw)⟩
      have := hw _ hm
      omega
section
variable {n : Nat} {g : G} {v w : D} {p : P} {os : List (List Char)} {rs : List (List Char × List Char)}
mutual
def smz (m : Nat) : P → Bool
  | .str s => decide (s.length ≤ m)
  | .tup ps => decide (ps.length ≤ m) && smzs m ps
  | .lst ps => decide (ps.length ≤ m) && smzs m ps
  | _ => true
def smzs (m : Nat) : List P → Bool
  | [] => true
  | p :: r => smz m p && smzs m r
end
mutual
theorem smz_mono {m k : Nat} (h : m ≤ k) : ∀ p : P, smz m p = true → smz k p = true
  | .str s, e => by simp [smz] at e ⊢; omega
  | .tup ps, e => by simp [smz] at e ⊢; exact ⟨by omega, smzs_mono h ps e.2⟩
  | .lst ps, e => by simp [smz] at e ⊢; exact ⟨by omega, smzs_mono h ps e.2⟩
  | .non, _ => rfl
  | .bl _, _ => rfl
  | .int _, _ => rfl
theorem smzs_mono {m k : Nat} (h : m ≤ k) : ∀ p : List P, smzs m p = true → smzs k p = true
  | [], _ => rfl
  | p :: r, e => by simp [smzs] at e ⊢; exact ⟨smz_mono h p e.1, smzs_mono h r e.2⟩
end
mutual
theorem smz_sm : ∀ p : P, smz 100000 p = true → sm p = true
  | .str s, e => by simp [smz, sm] at e ⊢; omega
  | .tup ps, e => by simp [smz, sm] at e ⊢; exact ⟨by omega, smzs_sms ps e.2⟩
  | .lst ps, e => by simp [smz, sm] at e ⊢; exact ⟨by omega, smzs_sms ps e.2⟩
  | .non, _ => rfl
  | .bl _, _ => rfl
  | .int _, _ => rfl
theorem smzs_sms : ∀ p : List P, smzs 100000 p = true → sms p = true
  | [], _ => rfl
  | p :: r, e => by simp [smzs, sms] at e ⊢; exact ⟨smz_sm p e.1, smzs_sms r e.2⟩
end
theorem smzs_mem {m : Nat} {p : P} : ∀ {ps : List P}, smzs m ps = true → p ∈ ps → smz m p = true
  | [], _, h => by cases h
  | q :: r, h, hm => by
    simp [smzs] at h
    rcases List.mem_cons.mp hm with e | hm
    · rw [e]; exact h.1
    · exact smzs_mem h.2 hm
theorem smzs_of {m : Nat} : ∀ {ps : List P}, (∀ p ∈ ps, smz m p = true) → smzs m ps = true
  | [], _ => rfl
  | q :: r, h => by simp [smzs]; exact ⟨h q (by simp), smzs_of fun p hp => h p (by simp [hp])⟩
theorem same_bl (b : Bool) (g : G) : f__law_same 8 [.bl b, .bl b] g = .ok (.bl true) g := same_true 8 (n1 := 0) (n2 := 0) (p := .bl b) (by simp [view]) (by simp [view]) (by omega) rfl
end
section
variable {n : Nat} {g : G} {v w : D} {p : P} {os : List (List Char)} {rs : List (List Char × List Char)}
theorem log2_lt {n k : Nat} (h : n < 2 ^ k) (hk : 0 < k) : n.log2 < k := by
  by_cases h0 : n = 0
  · subst h0; simp [Nat.log2]; omega
  · exact (Nat.log2_lt h0).mpr h
theorem mulOk_of {i j : Int} (hi : i.natAbs < 2 ^ 2000) (hj : j.natAbs < 2 ^ 2000) : mulOk i j = true := by
  unfold mulOk
  have := log2_lt hi (by omega)
  have := log2_lt hj (by omega)
  simp; omega
theorem lt_2000 {i : Int} (h0 : -100000000000000000000 ≤ i) (h1 : i ≤ 100000000000000000000) : i.natAbs < 2 ^ 2000 := by
  have : i.natAbs ≤ 100000000000000000000 := by omega
  exact Nat.lt_of_le_of_lt this (by decide +kernel)
theorem mulOk_small {i j : Int} (h0 : -100000000000000000000 ≤ i) (h1 : i ≤ 100000000000000000000) (h2 : -100000000000000000000 ≤ j) (h3 : j ≤ 100000000000000000000) : mulOk i j = true := mulOk_of (lt_2000 h0 h1) (lt_2000 h2 h3)
theorem seed_ok {s : Nat} {ns : List Int} (h : lstOf (.ref s) g = some (ns.map .int)) {Q : D → G → Prop} (q : ∀ m : Int, 0 ≤ m → m < 2147483647 → Q (.int m) g) : wp (f__law_seed [.ref s] g) Q := by
  unfold f__law_seed b__law_seed
  simp
  unfold lz
  simp [len_ref h]
  refine ⟨by refine small_int ?_ ?_ <;> split <;> omega, ?_⟩
  generalize hN : (if 63 < (ns.length : Int) then (63 : Int) else (ns.length : Int)).toNat = N
  have hN1 : N ≤ 63 ∧ N ≤ ns.length := by rw [← hN]; split <;> omega
  refine for_itL (fun i ρ g' => g = g' ∧ ∃ m y, ρ = [some (.ref s), some (.int m), y] ∧ 0 ≤ m ∧ m < 2147483647) ⟨rfl, 17, none, rfl, by omega, by omega⟩ ?_ ?_
  · rintro i d ρ _ hd ⟨rfl, m, y, rfl, m0, m1⟩
    obtain ⟨hi, rfl⟩ := rng_at hd
    refine ⟨_, rfl, ?_⟩
    have hy : ns[i]? = some (ns[i]'(by omega)) := List.getElem?_eq_getElem (by omega)
    generalize ns[i]'(by omega) = z at hy
    have e : oIdx (.ref s) (.int i) g = some (.int z) := by rw [idx_ref _ h, atI_nat, List.getElem?_map, hy]; rfl
    simp [e]
    refine ⟨mulOk_small (by omega) (by omega) (by omega) (by omega), ?_⟩
    exact ⟨Int.emod_nonneg _ (by omega), Int.emod_lt_of_pos _ (by omega)⟩
  · rintro ρ _ ⟨rfl, m, y, rfl, m0, m1⟩
    unfold lz
    simp
    exact q m m0 m1
/-- a source stands at r -/
def Src (g : G) (r : Nat) : Prop := ∃ c m : Int, g[r]? = some (.lst [.int c, .int m]) ∧ 0 ≤ c ∧ 0 ≤ m ∧ m < 2147483647
theorem source_ok {s : Nat} {ns : List Int} {place : Int} (h : lstOf (.ref s) g = some (ns.map .int)) (p0 : 0 ≤ place) (p1 : place ≤ 1000) {Q : D → G → Prop} (q : ∀ c m : Int, 0 ≤ c → 0 ≤ m → m < 2147483647 → Q (.ref g.length) (g ++ [.lst [.int c, .int m]])) : wp (f__law_source [.ref s, .int place] g) Q := by
  unfold f__law_source b__law_source
  have next : ∀ (c : Int), 0 ≤ c → lz q3__law_source [some (.ref s), some (.int place), some (.int c), none, none] g ⟨fun _ g => Q .non g, Q, fun _ _ => False, fun _ _ => False⟩ := by
    intro c hc
    unfold lz; simp
    refine seed_ok h fun m m0 m1 => ?_
    unfold lz; simp
    have hlog : Nat.log2 7 < 9000 := by decide
    refine ⟨mulOk_small (by omega) (by omega) (by omega) (by omega), hlog, mulOk_small (by omega) (by omega) (by omega) (by omega), mulOk_small (by omega) (by omega) (by omega) (by omega), ?_⟩
    unfold lz; simp [LINE]
    exact q c _ hc (Int.emod_nonneg _ (by omega)) (Int.emod_lt_of_pos _ (by omega))
  simp
  unfold lz; simp [len_ref h]
  by_cases hp : place < ns.length
  · have hy : ns[place.toNat]? = some (ns[place.toNat]'(by omega)) := List.getElem?_eq_getElem (by omega)
    generalize ns[place.toNat]'(by omega) = z at hy
    have e : oIdx (.ref s) (.int place) g = some (.int z) := by rw [idx_ref _ h, atI_int _ p0, List.getElem?_map, hy]; rfl
    simp [hp, e]
    refine ⟨by decide +kernel, by decide +kernel, ?_⟩
    exact next _ (Int.emod_nonneg _ (by decide +kernel))
  · simp [hp]
    exact next 0 (by omega)
theorem get_set (g : G) (r : Nat) (o : O) (h : r < g.length) : (g.set r o)[r]? = some o := by rw [List.getElem?_set_self h]
theorem take_ok {r : Nat} {many : Int} (h : Src g r) (h0' : 0 < many) (h1 : many ≤ 100000000000000000000) {Q : D → G → Prop} (q : ∀ (d : Int) (g' : G), 0 ≤ d → d < many → Only [r] g g' → Src g' r → Q (.int d) g') : wp (f__law_take [.ref r, .int many] g) Q := by
  obtain ⟨c, m, e, c0, m0, m1⟩ := h
  unfold f__law_take b__law_take
  have hl := lstOf_lst e
  have hr : r < g.length := lstOf_len hl
  simp [idx_ref _ hl]
  by_cases h0 : c = 0
  · rw [if_pos h0]
    refine ⟨mulOk_small (by omega) (by omega) (by omega) (by omega), ?_⟩
    simp [mutOf_lst e, ix]
    have e2 := get_set g r (.lst [.int c, .int ((m * 69621 + 12345) % 2147483647)]) hr
    have b0 : 0 ≤ (m * 69621 + 12345) % 2147483647 := Int.emod_nonneg _ (by omega)
    have b1 : (m * 69621 + 12345) % 2147483647 < 2147483647 := Int.emod_lt_of_pos _ (by omega)
    generalize (m * 69621 + 12345) % 2147483647 = m' at e2 b0 b1 ⊢
    unfold lz
    simp [idx_ref _ (lstOf_lst e2)]
    refine ⟨by decide, h0', q _ _ (Int.emod_nonneg _ (by omega)) (Int.emod_lt_of_pos _ h0') (Only.set (.inl (by simp)) _) ⟨c, m', e2, c0, b0, b1⟩⟩
  · rw [if_neg h0]
    unfold lz; simp [idx_ref _ hl]
    refine ⟨h0', ?_⟩
    unfold lz; simp [idx_ref _ hl]
    refine ⟨⟨h0', log2_lt (Nat.lt_of_le_of_lt (show many.natAbs ≤ 100000000000000000000 by omega) (by decide +kernel)) (by omega)⟩, ?_⟩
    simp [mutOf_lst e, ix]
    unfold lz; simp
    exact q _ _ (Int.emod_nonneg _ (by omega)) (Int.emod_lt_of_pos _ h0') (Only.set (.inl (by simp)) _) ⟨c / many, m, get_set g r _ hr, Int.ediv_nonneg c0 (by omega), m0, m1⟩
theorem idx_str_mem {cs : List Char} {i : Int} (hl : cs.length ≤ LINE) (h0 : 0 ≤ i) (h1 : i < cs.length) : ∃ c, oIdx (.str cs) (.int i) g = some (.str [c]) := by
  obtain ⟨c, e, _⟩ := atI_mem h0 h1
  exact ⟨c, by simp [hl, e]⟩
theorem idx_ref_mem {γ : Type} {f : γ → D} {r : Nat} {xs : List γ} {i : Int} (h : lstOf (.ref r) g = some (xs.map f)) (h0 : 0 ≤ i) (h1 : i < xs.length) : ∃ c ∈ xs, oIdx (.ref r) (.int i) g = some (f c) := by
  obtain ⟨c, e, hm⟩ := atI_mem (xs := xs.map f) h0 (by simpa using h1)
  obtain ⟨x, hx, rfl⟩ := List.mem_map.mp hm
  exact ⟨x, hx, by rw [idx_ref _ h, e]⟩
theorem idx_tup_mem {γ : Type} {f : γ → D} {xs : List γ} {i : Int} (h0 : 0 ≤ i) (h1 : i < xs.length) : ∃ c ∈ xs, oIdx (.tup (xs.map f)) (.int i) g = some (f c) := by
  obtain ⟨c, e, hm⟩ := atI_mem (xs := xs.map f) h0 (by simpa using h1)
  obtain ⟨x, hx, rfl⟩ := List.mem_map.mp hm
  exact ⟨x, hx, by rw [idx_tup, e]⟩
theorem lit0_len : lit_0.length = 26 := rfl
theorem cut_hd {γ : Type} (xs : List γ) {i : Int} (h0 : 0 ≤ i) : cut xs none (some i) = xs.take i.toNat := by
  have : ¬ i < 0 := by omega
  simp [cut, sIx, this]
theorem cut_tl {γ : Type} (xs : List γ) {i : Int} (h0 : 0 ≤ i) : cut xs (some i) none = xs.drop i.toNat := by
  have : ¬ i < 0 := by omega
  simp [cut, sIx, this]
  by_cases h : i.toNat ≤ xs.length
  · rw [Nat.min_eq_left h, List.take_of_length_le (by simp)]
  · rw [Nat.min_eq_right (by omega), List.drop_eq_nil_of_le (by omega), List.drop_eq_nil_of_le (by omega)]; simp
def Words (ws : List (List Char)) : Prop := ∀ w ∈ ws, 1 ≤ w.length ∧ w.length ≤ 8
theorem word_ok {r o : Nat} {ws : List (List Char)} (h : Src g r) (ho : lstOf (.ref o) g = some (ws.map .str)) (hw : Words ws) (hl : ws.length ≤ 1000) (hro : o ≠ r) {Q : D → G → Prop}
    (q : ∀ (w : List Char) (g' : G), 1 ≤ w.length → w.length ≤ 8 → Only [r] g g' → Src g' r → Q (.str w) g') : wp (f__law_word [.ref r, .ref o] g) Q := by
  unfold f__law_word b__law_word
  simp
  have rest : ∀ g', Only [r] g g' → Src g' r → lz q5__law_word [some (.ref r), some (.ref o), some (.str lit_0), none, none, none, none] g' ⟨fun _ g => Q .non g, Q, fun _ _ => False, fun _ _ => False⟩ := by
    intro g1 o1 s1
    unfold lz; simp
    unfold lz; simp
    refine take_ok s1 (by omega) (by omega) fun d g2 d0 d1 o2 s2 => ?_
    simp
    refine ⟨small_int (by omega) (by omega), ?_⟩
    refine for_itL (fun i ρ g' => Only [r] g g' ∧ Src g' r ∧ ∃ w y, ρ = [some (.ref r), some (.ref o), some (.str lit_0), none, none, some (.str w), y] ∧ w.length = i) ⟨o1.trans o2, s2, [], none, rfl, rfl⟩ ?_ ?_
    · rintro i d ρ g3 hd ⟨o3, s3, w, y, rfl, hwl⟩
      obtain ⟨hi, rfl⟩ := rng_at hd
      refine ⟨_, rfl, ?_⟩
      simp
      refine take_ok s3 (by omega) (by omega) fun d g4 d0 d1 o4 s4 => ?_
      obtain ⟨c, hc⟩ := idx_str_mem (g := g4) (cs := lit_0) (by decide +kernel) d0 (by rw [lit0_len]; exact d1)
      rw [hc]
      simp
      exact ⟨by unfold LINE; omega, o3.trans o4, s4, hwl⟩
    · rintro ρ g3 ⟨o3, s3, w, y, rfl, hwl⟩
      simp at hwl
      unfold lz; simp
      exact q _ _ (by omega) (by omega) o3 s3
  unfold lz
  simp [len_ref ho]
  by_cases h1 : ws = []
  · subst h1
    simp
    exact rest g (Only.refl _ _) h
  · have hp : 0 < ws.length := List.length_pos_iff.mpr h1
    simp [hp]
    refine take_ok h (by omega) (by omega) fun d g1 d0 d1 o1 s1 => ?_
    simp
    by_cases hd : d = 0
    · rw [if_pos hd]
      have ho1 := o1.lst ho (by simpa using hro)
      simp [len_ref ho1]
      refine take_ok s1 (by omega) (by omega) fun d g2 d0 d1 o2 s2 => ?_
      have ho2 := o2.lst ho1 (by simpa using hro)
      obtain ⟨b, hb, e⟩ := idx_ref_mem ho2 d0 d1
      have hb' := hw b hb
      rw [e]
      simp
      unfold lz
      have : b.length ≤ LINE := by unfold LINE; omega
      simp [this]
      refine take_ok s2 (by omega) (by omega) fun d g3 d0 d1 o3 s3 => ?_
      unfold lz
      simp [this]
      refine take_ok s3 (by omega) (by omega) fun d4 g4 d40 d41 o4 s4 => ?_
      obtain ⟨c, hc⟩ := idx_str_mem (g := g4) (cs := lit_0) (by decide +kernel) d40 (by rw [lit0_len]; exact d41)
      rw [hc]
      simp [this]
      rw [cut_hd _ d0, cut_tl _ (by omega)]
      have l1 : (b.take d.toNat).length = d.toNat := by rw [List.length_take]; omega
      have l2 : (b.drop (d + 1).toNat).length = b.length - (d + 1).toNat := by rw [List.length_drop]
      refine ⟨by unfold LINE; omega, by unfold LINE; omega, q _ _ ?_ ?_ (((o1.trans o2).trans o3).trans o4) s4⟩
      · simp only [List.length_append, List.length_cons]; omega
      · simp only [List.length_append, List.length_cons, l1, l2]; omega
    · rw [if_neg hd]
      exact rest g1 o1 s1
theorem Src.set {r a : Nat} {o : O} (h : Src g r) (hr : a ≠ r) : Src (g.set a o) r := by
  obtain ⟨c, m, e, z⟩ := h
  exact ⟨c, m, by rw [List.getElem?_set_ne hr]; exact e, z⟩
theorem Src.snoc {r : Nat} (h : Src g r) (o : O) : Src (g ++ [o]) r := by
  obtain ⟨c, m, e, z⟩ := h
  exact ⟨c, m, (Stay.snoc g o) r _ e, z⟩
theorem Src.lt {r : Nat} (h : Src g r) : r < g.length := by
  obtain ⟨c, m, e, z⟩ := h
  exact (List.getElem?_eq_some_iff.mp e).1
theorem at_lt {a : Nat} {o : O} (h : g[a]? = some o) : a < g.length := (List.getElem?_eq_some_iff.mp h).1
theorem at_set {a : Nat} {o o' : O} (h : g[a]? = some o) : (g.set a o')[a]? = some o' := get_set g a o' (at_lt h)
theorem at_ne {a b : Nat} {o o' : O} (h : g[a]? = some o) (hb : b ≠ a) : (g.set b o')[a]? = some o := by rw [List.getElem?_set_ne hb]; exact h
theorem at_snoc {a : Nat} {o o' : O} (h : g[a]? = some o) : (g ++ [o'])[a]? = some o := Stay.snoc g o' a o h
theorem lstOf_at {a : Nat} {xs : List D} (h : g[a]? = some (.lst xs)) : (lstOf (.ref a) g).isSome = true := by rw [lstOf_lst h]; rfl
def HI (g : G) (r b c : Nat) (ws os : List (List Char)) (i : Nat) (ρ : Env) (g' : G) : Prop :=
  Only [r] g g' ∧ Src g' r ∧ g'[g.length]? = some (.lst (ws.map .str)) ∧ g'[b]? = some (.lst (os.map .str)) ∧ ∃ (rs : List (List Char × List Char)) (y2 y6 y7 : Option D),
      ρ = [some (.ref r), some (.ref g.length), y2, some (.ref b), some (.ref c), some (.ref (c + 1)), y6, y7] ∧ g'[c]? = some (.lst (rs.map fun x => .tup [.str x.1, .str x.2])) ∧
      g'[c + 1]? = some (.lst ((rs.map (·.1)).map .str)) ∧ rs.length ≤ i ∧ (1 ≤ i → 1 ≤ rs.length) ∧ Words (rs.map (·.1)) ∧ ∀ x ∈ rs, x.2 = [] ∨ x.2 ∈ os
theorem house_ok {r : Nat} (h : Src g r) {Q : D → G → Prop}
    (q : ∀ (os : List (List Char)) (rs : List (List Char × List Char)) (g' : G), 1 ≤ os.length → os.length ≤ 8 → 1 ≤ rs.length → rs.length ≤ 6 → Words os → Words (rs.map (·.1)) → (∀ x ∈ rs, x.2 = [] ∨ x.2 ∈ os) → Only [r] g g' → Src g' r → Q (HD os rs) g') : wp (f__law_house [.ref r] g) Q := by
  unfold f__law_house b__law_house
  have hr := h.lt
  simp
  unfold lz; simp
  refine take_ok (h.snoc _) (by omega) (by omega) fun d g1 d0 d1 o1 s1 => ?_
  simp
  refine ⟨small_int (by omega) (by omega), ?_⟩
  refine for_itL (fun i ρ g' => Only [r] g g' ∧ Src g' r ∧ ∃ ws y, ρ = [some (.ref r), some (.ref g.length), y, none, none, none, none, none] ∧ g'[g.length]? = some (.lst (ws.map .str)) ∧ ws.length = i ∧ Words ws)
    ⟨(Only.snoc _ _ _).trans o1, s1, [], none, rfl, o1.get (get_snoc _ _) (by simp; omega), rfl, by simp [Words]⟩ ?_ ?_
  · rintro i dd ρ g2 hd ⟨o2, s2, ws, y, rfl, a2, hl, hw⟩
    obtain ⟨hi, rfl⟩ := rng_at hd
    refine ⟨_, rfl, ?_⟩
    simp [lstOf_lst a2]
    refine word_ok s2 (lstOf_lst a2) hw (by omega) (by omega) fun w g3 w0 w1 o3 s3 => ?_
    have a3 := o3.get a2 (by simp; omega)
    rw [append_lst a3]
    simp
    refine ⟨by unfold LINE; omega, (o2.trans o3).then (Only.set (ws := [g.length]) (.inl (by simp)) _) (by simp), s3.set (by omega), ws ++ [w], by simpa using at_set a3, by simp [hl], ?_⟩
    intro x hx
    rcases List.mem_append.mp hx with hx | hx
    · exact hw x hx
    · cases List.mem_singleton.mp hx; exact ⟨w0, w1⟩
  rintro ρ g2 ⟨o2, s2, ws, y, rfl, a2, hl, hw⟩
  simp at hl
  have hg2 : g.length < g2.length := at_lt a2
  unfold lz; simp
  unfold lz; simp
  refine take_ok (s2.snoc _) (by omega) (by omega) fun d' g3 d0' d1' o3 s3 => ?_
  simp
  refine ⟨small_int (by omega) (by omega), ?_⟩
  have a3 := o3.get (at_snoc (o' := .lst []) a2) (by simp; omega)
  refine for_itL (fun i ρ g' => Only [r] g g' ∧ Src g' r ∧ g'[g.length]? = some (.lst (ws.map .str)) ∧ ∃ os y, ρ = [some (.ref r), some (.ref g.length), y, some (.ref g2.length), none, none, none, none] ∧ g'[g2.length]? = some (.lst (os.map .str)) ∧ os.length = i ∧ Words os)
    ⟨o2.trans ((Only.snoc _ _ _).trans o3), s3, a3, [], y, rfl, o3.get (get_snoc _ _) (by simp; omega), rfl, by simp [Words]⟩ ?_ ?_
  · rintro i dd ρ g4 hd ⟨o4, s4, a4, os, y, rfl, b4, hlo, how⟩
    obtain ⟨hi, rfl⟩ := rng_at hd
    refine ⟨_, rfl, ?_⟩
    simp [lstOf_lst a4, lstOf_lst b4, len_ref (lstOf_lst a4)]
    refine take_ok s4 (by omega) (by omega) fun e g5 e0 e1 o5 s5 => ?_
    have a5 := o5.get a4 (by simp; omega)
    have b5 := o5.get b4 (by simp; omega)
    obtain ⟨c, hc, ec⟩ := idx_ref_mem (lstOf_lst a5) e0 e1
    rw [ec]
    simp
    rw [append_lst b5]
    simp
    refine ⟨by unfold LINE; omega, (o4.trans o5).then (Only.set (ws := [g2.length]) (.inl (by simp)) _) (by simp; omega), s5.set (by omega), at_ne a5 (by omega), os ++ [c], by simpa using at_set b5, by simp [hlo], ?_⟩
    intro x hx
    rcases List.mem_append.mp hx with hx | hx
    · exact how x hx
    · cases List.mem_singleton.mp hx; exact hw c hc
  rintro ρ g4 ⟨o4, s4, a4, os, y, rfl, b4, hlo, how⟩
  simp at hlo
  have hg4 : g2.length < g4.length := at_lt b4
  unfold lz; simp
  unfold lz; simp
  unfold lz; simp
  have k4 : Only [r] g4 (g4 ++ [.lst [], .lst []]) := by
    have := (Only.snoc [r] g4 (.lst [])).trans (Only.snoc [r] (g4 ++ [.lst []]) (.lst []))
    simpa using this
  have t4 : Src (g4 ++ [.lst [], .lst []]) r := by
    have := (s4.snoc (.lst [])).snoc (.lst [])
    simpa using this
  refine take_ok t4 (by omega) (by omega) fun d'' g5 d0'' d1'' o5 s5 => ?_
  simp
  refine ⟨small_int (by omega) (by omega), ?_⟩
  have a5 := o5.get (k4.get a4 (by simp; omega)) (by simp; omega)
  have b5 := o5.get (k4.get b4 (by simp; omega)) (by simp; omega)
  have c5 : g5[g4.length]? = some (.lst []) := o5.get (by simp) (by simp; omega)
  have t5 : g5[g4.length + 1]? = some (.lst []) := o5.get (by simp) (by simp; omega)
  refine for_itL (HI g r g2.length g4.length ws os)
    ⟨(o4.trans k4).trans o5, s5, a5, b5, [], y, none, none, rfl, c5, t5, by simp, by omega, by simp [Words], by simp⟩ ?_ ?_
  · rintro i dd ρ g6 hd ⟨o6, s6, a6, b6, rs, y2, y6, y7, rfl, c6, t6, hrl, hr1, hrw, hrk⟩
    obtain ⟨hi, rfl⟩ := rng_at hd
    refine ⟨_, rfl, ?_⟩
    have hg6 := at_lt t6
    have hlen : ((ws.map D.str) ++ ((rs.map (·.1)).map D.str)).length = ws.length + rs.length := by simp
    simp
    rw [add_lst a6 t6]
    refine ⟨by simp; unfold LINE; omega, ?_⟩
    refine word_ok (ws := ws ++ rs.map (·.1)) (s6.snoc _) (by rw [List.map_append]; exact lstOf_lst (get_snoc _ _)) (fun w hw' => ?_) (by simp; omega) (by have := s6.lt; omega) fun w g7 w0 w1 o7 s7 => ?_
    · rcases List.mem_append.mp hw' with z | z
      · exact hw w z
      · exact hrw w z
    have o7 := (Only.snoc [r] g6 _).trans o7
    have a7 := o7.get a6 (by simp; omega)
    have b7 := o7.get b6 (by simp; omega)
    have c7 := o7.get c6 (by simp; omega)
    have t7 := o7.get t6 (by simp; omega)
    have o7 := o6.trans o7
    have last : ∀ (bk ct : Env → G → Prop) (kp : List Char) (g8 : G), (kp = [] ∨ kp ∈ os) → Only [r] g g8 → Src g8 r → g8[g.length]? = some (.lst (ws.map .str)) → g8[g2.length]? = some (.lst (os.map .str)) → g8[g4.length]? = some (.lst (rs.map fun x => .tup [.str x.1, .str x.2])) → g8[g4.length + 1]? = some (.lst ((rs.map (·.1)).map .str)) →
        lz q2__law_house [some (.ref r), some (.ref g.length), some (.int i), some (.ref g2.length), some (.ref g4.length), some (.ref (g4.length + 1)), some (.str w), some (.str kp)] g8 ⟨HI g r g2.length g4.length ws os (i + 1), Q, bk, ct⟩ := by
      intro bk ct kp g8 hkp o8 s8 a8 b8 c8 t8
      unfold lz; simp
      have hin : inD (.str w) (.ref (g4.length + 1)) g8 = some (decide (w ∈ rs.map (·.1))) := in_strs w (lstOf_lst t8)
      rw [hin]
      by_cases hm : w ∈ rs.map (·.1)
      · rw [decide_eq_true hm]
        simp
        refine ⟨o8, s8, a8, b8, rs, _, _, _, rfl, c8, t8, by omega, fun _ => ?_, hrw, hrk⟩
        obtain ⟨x, hx, e⟩ := List.mem_map.mp hm
        exact List.length_pos_of_mem hx
      · rw [decide_eq_false hm]
        simp [-List.map_map, lstOf_lst t8]
        rw [append_lst t8]
        refine ⟨by simp; unfold LINE; omega, ?_⟩
        unfold lz
        have c9 : (g8.set (g4.length + 1) (.lst ((rs.map (·.1)).map .str ++ [.str w])))[g4.length]? = some (.lst (rs.map fun x => .tup [.str x.1, .str x.2])) := at_ne c8 (by omega)
        simp [-List.map_map, lstOf_lst c9, LINE]
        rw [append_lst c9]
        refine ⟨by simp; unfold LINE; omega, ?_⟩
        have oo := (Only.set (g := g8) (ws := [g4.length + 1]) (r := g4.length + 1) (.inl (by simp)) (.lst ((rs.map (·.1)).map .str ++ [.str w])))
        have oo2 := o8.then oo (by simp; omega)
        refine ⟨oo2.then (Only.set (ws := [g4.length]) (.inl (by simp)) _) (by simp; omega), (s8.set (by have := s8.lt; omega)).set (by omega), ?_⟩
        refine ⟨at_ne (at_ne a8 (by omega)) (by omega), at_ne (at_ne b8 (by omega)) (by omega), rs ++ [(w, kp)], _, _, _, rfl, ?_, ?_, by simp; omega, by simp, ?_, fun x hx => by
          rcases List.mem_append.mp hx with hx | hx
          · exact hrk x hx
          · cases List.mem_singleton.mp hx; exact hkp⟩
        · have := at_set (o' := .lst (rs.map (fun x => .tup [.str x.1, .str x.2]) ++ [.tup [.str w, .str kp]])) c9
          simpa using this
        · refine at_ne ?_ (by omega)
          have := at_set (o' := .lst ((rs.map (·.1)).map .str ++ [.str w])) t8
          simpa using this
        · intro x hx
          simp only [List.map_append, List.map_cons, List.map_nil] at hx
          rcases List.mem_append.mp hx with hx | hx
          · exact hrw x hx
          · cases List.mem_singleton.mp hx; exact ⟨w0, w1⟩
    unfold lz; simp
    unfold lz; simp
    refine take_ok s7 (by omega) (by omega) fun e g8 e0 e1 o8 s8 => ?_
    have a8 := o8.get a7 (by simp; omega)
    have b8 := o8.get b7 (by simp; omega)
    have c8 := o8.get c7 (by simp; omega)
    have t8 := o8.get t7 (by simp; omega)
    simp
    by_cases he : 0 < e
    · rw [if_pos he]
      simp [len_ref (lstOf_lst b8)]
      refine take_ok s8 (by omega) (by omega) fun e' g9 e0' e1' o9 s9 => ?_
      have a9 := o9.get a8 (by simp; omega)
      have b9 := o9.get b8 (by simp; omega)
      have c9 := o9.get c8 (by simp; omega)
      have t9 := o9.get t8 (by simp; omega)
      obtain ⟨kp, hkp, ek⟩ := idx_ref_mem (lstOf_lst b9) e0' e1'
      rw [ek]
      simp
      exact last _ _ kp g9 (.inr hkp) ((o7.trans o8).trans o9) s9 a9 b9 c9 t9
    · rw [if_neg he]
      exact last _ _ [] g8 (.inl rfl) (o7.trans o8) s8 a8 b8 c8 t8
  · rintro ρ g6 ⟨o6, s6, a6, b6, rs, y2, y6, y7, rfl, c6, t6, hrl, hr1, hrw, hrk⟩
    unfold lz; simp
    rw [tuple_ref (lstOf_lst b6)]
    simp
    rw [tuple_ref (lstOf_lst c6)]
    simp at hrl hr1
    simp
    exact ⟨by unfold LINE; omega, q os rs g6 (by omega) (by omega) (by omega) (by omega) how hrw hrk o6 s6⟩
end
section
variable {n : Nat} {g : G} {v w : D} {p : P}
theorem put_ok {ds : List D} {i : Int} {v : D} (h0 : 0 ≤ i) (hl : ds.length ≤ 1000) {Q : D → G → Prop} (q : Q (.tup (ds.take i.toNat ++ [v] ++ ds.drop (i.toNat + 1))) g) : wp (f__law_put [.tup ds, .int i, v] g) Q := by
  unfold f__law_put b__law_put
  simp [LINE]
  rw [cut_hd _ h0, cut_tl _ (by omega)]
  have : (i + 1).toNat = i.toNat + 1 := by omega
  rw [this]
  have l1 : (ds.take i.toNat).length ≤ ds.length := by rw [List.length_take]; omega
  have l2 : (ds.drop (i.toNat + 1)).length ≤ ds.length := by rw [List.length_drop]; omega
  refine ⟨by omega, by omega, ?_⟩
  simpa using q
end
/-- data that keeps away from r, nested to n, of widths to m -/
def V (r : Nat) (g : G) (n m : Nat) (v : D) : Prop := ∃ p, vx [r] g n v = some p ∧ smz m p = true
section
variable {r n m k : Nat} {g g' : G} {v w : D} {p : P} {os : List (List Char)} {rs : List (List Char × List Char)}
theorem V.mono (h : V r g n m v) {n' m' : Nat} (hn : n ≤ n') (hm : m ≤ m') : V r g n' m' v := by
  obtain ⟨p, e, s⟩ := h
  exact ⟨p, vx_up hn e, smz_mono hm p s⟩
theorem V.only (h : V r g n m v) (o : Only [r] g g') : V r g' n m v := by
  obtain ⟨p, e, s⟩ := h
  exact ⟨p, vx_go o (by simp) (by simp) e, s⟩
theorem viewsV {ds : List D} (h : ∀ d ∈ ds, V r g n m d) : ∃ ps, viewL (vx [r] g n) ds = some ps ∧ smzs m ps = true := by
  obtain ⟨ps, hps⟩ := viewL_ex (f := vx [r] g n) (ds := ds) fun d hd => by obtain ⟨p, e, _⟩ := h d hd; exact ⟨p, e⟩
  refine ⟨ps, hps, smzs_of fun p hp => ?_⟩
  obtain ⟨d, hd, e⟩ := viewL_memP hps hp
  obtain ⟨p', e', s⟩ := h d hd
  rw [e] at e'; cases e'
  exact s
theorem V_tup {ds : List D} (h : ∀ d ∈ ds, V r g n m d) (hl : ds.length ≤ m) : V r g (n + 1) m (.tup ds) := by
  obtain ⟨ps, e, s⟩ := viewsV h
  exact ⟨_, vx_tup e, by have := viewL_len e; simp [smz, s]; omega⟩
theorem V_lst {ds : List D} {a : Nat} (h : ∀ d ∈ ds, V r g n m d) (hl : ds.length ≤ m) (ha : a ≠ r) (hg : lstOf (.ref a) g = some ds) : V r g (n + 1) m (.ref a) := by
  obtain ⟨ps, e, s⟩ := viewsV h
  exact ⟨_, vx_lst (by simpa using ha) hg e, by have := viewL_len e; simp [smz, s]; omega⟩
theorem V.tup {ds : List D} (h : V r g n m (.tup ds)) : ∃ j, n = j + 1 ∧ ds.length ≤ m ∧ ∀ d ∈ ds, V r g j m d := by
  obtain ⟨p, e, s⟩ := h
  rcases vx_inv e with ⟨e0, _⟩ | ⟨b, e0, _⟩ | ⟨b, e0, _⟩ | ⟨b, e0, _⟩ | ⟨j, ds', ps, hj, e0, rfl, h1⟩ | ⟨j, r', xs, ps, hj, e0, _⟩ <;> cases e0
  have l := viewL_len h1
  simp [smz] at s
  refine ⟨j, hj, by omega, fun d hd => ?_⟩
  obtain ⟨q, hq, eq⟩ := viewL_mem h1 hd
  exact ⟨q, eq, smzs_mem s.2 hq⟩
theorem V_non : V r g n m .non := ⟨.non, by simp [vx], rfl⟩
theorem V_bl (b : Bool) : V r g n m (.bl b) := ⟨.bl b, by simp [vx], rfl⟩
theorem V_int (b : Int) : V r g n m (.int b) := ⟨.int b, by simp [vx], rfl⟩
theorem V_str {s : List Char} (h : s.length ≤ m) : V r g n m (.str s) := ⟨.str s, by simp [vx], by simp [smz, h]⟩
theorem V.str {s : List Char} (h : V r g n m (.str s)) : s.length ≤ m := by
  obtain ⟨p, e, s'⟩ := h
  simp [vx] at e
  subst e
  simpa [smz] using s'
theorem V.view (h : V r g n m v) (hm : m ≤ 100000) : ∃ p, view g n v = some p ∧ sm p = true := by
  obtain ⟨p, e, s⟩ := h
  exact ⟨p, vx_view e, smz_sm p (smz_mono hm p s)⟩
theorem V.ty (h : V r g n m v) : ∃ u, tyOf v g = some u := by
  obtain ⟨p, e, s⟩ := h
  exact ⟨_, ty_is (vx_view e)⟩
theorem V.kind (h : V r g n m v) : (∃ es, v = .tup es) ∨ (∃ s, v = .str s) ∨ ∃ u, tyOf v g = some u ∧ isTy .tuple u = false ∧ isTy .str u = false := by
  obtain ⟨p, e, s⟩ := h
  rcases view_inv (vx_view e) with ⟨rfl, rfl⟩ | ⟨b, rfl, rfl⟩ | ⟨b, rfl, rfl⟩ | ⟨s, rfl, rfl⟩ | ⟨m, ds, ps, e, rfl, rfl, h1⟩ | ⟨m, r, xs, ps, e, rfl, hx, rfl, h1⟩
  · exact .inr (.inr ⟨_, rfl, rfl, rfl⟩)
  · exact .inr (.inr ⟨_, rfl, rfl, rfl⟩)
  · exact .inr (.inr ⟨_, rfl, rfl, rfl⟩)
  · exact .inr (.inl ⟨_, rfl⟩)
  · exact .inl ⟨_, rfl⟩
  · exact .inr (.inr ⟨_, ty_ref hx, rfl, rfl⟩)
theorem V_put {ds : List D} {i : Nat} (h : ∀ d ∈ ds, V r g n m d) (hl : ds.length ≤ m) (hv : V r g n (m + 1) v) : V r g (n + 1) (m + 1) (.tup (ds.take i ++ [v] ++ ds.drop (i + 1))) := by
  refine V_tup (fun d hd => ?_) ?_
  · simp only [List.mem_append, List.mem_singleton] at hd
    rcases hd with (hd | rfl) | hd
    · exact (h d (List.mem_of_mem_take hd)).mono (Nat.le_refl _) (by omega)
    · exact hv
    · exact (h d (List.mem_of_mem_drop hd)).mono (Nat.le_refl _) (by omega)
  · simp only [List.length_append, List.length_take, List.length_drop, List.length_singleton]; omega
theorem put_V {ds : List D} {i : Int} (h0 : 0 ≤ i) (h : ∀ d ∈ ds, V r g n m d) (hl : ds.length ≤ m) (hm : m ≤ 1000) (hv : V r g n (m + 1) v) {Q : D → G → Prop} (q : ∀ ds', V r g (n + 1) (m + 1) (.tup ds') → Q (.tup ds') g) : wp (f__law_put [.tup ds, .int i, v] g) Q :=
  put_ok h0 (by omega) (q _ (V_put h hl hv))
end
end K01
end

section
set_option autoImplicit false
set_option linter.all false
/-! k01: the house is checked. -/
namespace K01
open Py
def wordP : P → Bool | .str s => decide (1 ≤ s.length) && decide (s.length ≤ 8) && s.all (· ∈ lit_0) | _ => false
def chr : D → Bool | .str [c] => decide (c ∈ lit_0) | _ => false
theorem chars (s : List Char) : (s.map fun c => D.str [c]).all chr = s.all (· ∈ lit_0) := by
  induction s with
  | nil => rfl
  | cons c s ih => simp only [List.map_cons, List.all_cons, ih]; rfl
section
variable {n : Nat} {g : G} {v w : D} {p : P} {os : List (List Char)} {rs : List (List Char × List Char)}
theorem is_word (h : view g n v = some p) (hz : sm p = true) : f_is_word [v] g = .ok (.bl (wordP p)) g := by
  apply eq_ok
  unfold f_is_word
  unfold b_is_word
  rcases view_inv h with ⟨rfl, rfl⟩ | ⟨b, rfl, rfl⟩ | ⟨b, rfl, rfl⟩ | ⟨s, rfl, rfl⟩ | ⟨m, ds, ps, e, rfl, rfl, h1⟩ | ⟨m, r, xs, ps, e, rfl, hx, rfl, h1⟩
  all_goals simp [lz, isTy, wordP]
  · have hl := sm_str hz
    simp [lz, hl]
    by_cases h0 : (1 : Int) ≤ s.length
    · by_cases h8 : (s.length : Int) ≤ 8
      · simp [lz, h0, h8]
        refine look_all (good := chr) ?_ ?_ ?_
        · intro d hd
          obtain ⟨c, hc, rfl⟩ := List.mem_map.mp hd
          by_cases h1 : c ∈ lit_0
          · simp [lz, chr, h1]
          · simp [lz, chr, h1]
        · intro ha ρ' _
          rw [chars] at ha
          simp at ha ⊢
          exact ⟨⟨by omega, by omega⟩, ha⟩
        · intro ha
          rw [chars] at ha
          simp at ha ⊢
          exact fun _ _ => ha
      · simp [lz, h0, h8]; omega
    · simp [lz, h0]; omega
  · simp [lz, ty_ref hx, isTy]
theorem law_is_word (h : view g n v = some p) (hz : sm p = true) : f__law_is_word [v] g = .ok (.bl (wordP p)) g := by
  apply eq_ok
  unfold f__law_is_word
  unfold b__law_is_word
  rcases view_inv h with ⟨rfl, rfl⟩ | ⟨b, rfl, rfl⟩ | ⟨b, rfl, rfl⟩ | ⟨s, rfl, rfl⟩ | ⟨m, ds, ps, e, rfl, rfl, h1⟩ | ⟨m, r, xs, ps, e, rfl, hx, rfl, h1⟩
  all_goals simp [lz, isTy, wordP]
  · have hl := sm_str hz
    simp [lz, hl]
    by_cases h0 : (s.length : Int) < 1
    · simp [lz, h0]; omega
    · by_cases h8 : 8 < (s.length : Int)
      · simp [lz, h0, h8]; omega
      · simp [lz, h0, h8]
        refine look_all (good := chr) ?_ ?_ ?_
        · intro d hd
          obtain ⟨c, hc, rfl⟩ := List.mem_map.mp hd
          by_cases h1 : c ∈ lit_0
          · simp [lz, chr, h1]
          · simp [lz, chr, h1]
        · intro ha ρ' _
          rw [chars] at ha
          simp at ha ⊢
          exact ⟨⟨by omega, by omega⟩, ha⟩
        · intro ha
          rw [chars] at ha
          simp at ha ⊢
          exact fun _ _ => ha
  · simp [lz, ty_ref hx, isTy]
def ownersP : P → Bool | .tup ps => decide (1 ≤ ps.length) && decide (ps.length ≤ 8) && ps.all wordP | _ => false
theorem good_owners (h : view g n v = some p) (hz : sm p = true) : f_good_owners [v] g = .ok (.bl (ownersP p)) g := by
  apply eq_ok
  unfold f_good_owners
  unfold b_good_owners
  rcases view_inv h with ⟨rfl, rfl⟩ | ⟨b, rfl, rfl⟩ | ⟨b, rfl, rfl⟩ | ⟨s, rfl, rfl⟩ | ⟨m, ds, ps, e, rfl, rfl, h1⟩ | ⟨m, r, xs, ps, e, rfl, hx, rfl, h1⟩
  case inr.inr.inr.inr.inr => simp [lz, ty_ref hx, isTy, ownersP]
  case inr.inr.inr.inr.inl =>
    have hl := viewL_len h1
    simp [sm] at hz
    simp [lz, isTy, ownersP]
    by_cases h0 : (1 : Int) ≤ ds.length
    · by_cases h8 : (ds.length : Int) ≤ 8
      · simp [lz, h0, h8]
        refine look_all (good := fun d => match view g m d with | some p => wordP p | none => false) ?_ ?_ ?_
        · intro d hd
          obtain ⟨q, hq, hv⟩ := viewL_mem h1 hd
          have e2 := is_word hv (sm_mem hz.2 hq)
          cases hw : wordP q <;> rw [hw] at e2 <;> simp [lz, e2, hv, hw]
        · intro ha ρ' _
          have ha := (all_views (q := wordP) h1).symm.trans ha
          simp at ha ⊢
          exact ⟨⟨by omega, by omega⟩, ha⟩
        · intro ha
          have ha := (all_views (q := wordP) h1).symm.trans ha
          simp at ha ⊢
          exact fun _ _ => ha
      · simp [lz, h0, h8]; omega
    · simp [lz, h0]; omega
  all_goals simp [lz, isTy, ownersP]
end
end K01
end

section
set_option autoImplicit false
set_option linter.all false
/-! k01: the rooms are checked. -/
namespace K01
open Py
def roomsGo (os : List (List Char)) : List (List Char) → List P → Bool
  | _, [] => true
  | ts, .tup [.str n, .str k] :: r => wordP (.str n) && (!decide (n ∈ ts)) && (decide (k = []) || decide (k ∈ os)) && roomsGo os (ts ++ [n]) r
  | _, _ :: _ => false
def roomsP (os : List (List Char)) : P → Bool | .tup ps => decide (1 ≤ ps.length) && decide (ps.length ≤ 6) && roomsGo os [] ps | _ => false
theorem wordP_s {p : P} (h : wordP p = true) : ∃ s, p = .str s := by
  cases p <;> simp [wordP] at h
  exact ⟨_, rfl⟩
theorem go_len {os ts : List (List Char)} {qs r : List P} (h : ∀ a b : P, qs ≠ [a, b]) : roomsGo os ts (.tup qs :: r) = false := by
  rcases qs with _ | ⟨a, _ | ⟨b, _ | ⟨c, qs⟩⟩⟩
  · rfl
  · cases a <;> rfl
  · exact absurd rfl (h a b)
  · cases a <;> cases b <;> rfl
theorem go_two {os ts : List (List Char)} {a b : P} {r : List P} (h : isS a = false ∨ isS b = false) : roomsGo os ts (.tup [a, b] :: r) = false := by
  cases a <;> cases b <;> simp [isS] at h <;> rfl
theorem go_word {os ts : List (List Char)} {a b : P} {r : List P} (h : wordP a = false) : roomsGo os ts (.tup [a, b] :: r) = false := by
  cases a <;> cases b <;> first | rfl | (unfold roomsGo; rw [h]; simp)
def RI (g : G) (O v : D) (os : List (List Char)) (ps : List P) (i : Nat) (ρ : Env) (g' : G) : Prop :=
  Only [] g g' ∧ ∃ (ts : List (List Char)) (y3 y4 y5 : Option D), ρ = [some O, some v, some (.ref g.length), y3, y4, y5] ∧ g'[g.length]? = some (.lst (ts.map .str)) ∧ ts.length ≤ i ∧ roomsGo os [] ps = roomsGo os ts (ps.drop i)
def RF (g : G) (h O v : D) (os : List (List Char)) (ps : List P) (i : Nat) (ρ : Env) (g' : G) : Prop :=
  Only [] g g' ∧ ∃ (ts : List (List Char)) (y3 y5 : Option D), ρ = [some h, some O, some v, y3, some (.ref g.length), y5] ∧ g'[g.length]? = some (.lst (ts.map .str)) ∧ ts.length ≤ i ∧ roomsGo os [] ps = roomsGo os ts (ps.drop i)
theorem drop_at {α : Type} {ps : List α} {i : Nat} {p : α} (h : ps[i]? = some p) : ps.drop i = p :: ps.drop (i + 1) := by
  obtain ⟨hl, e⟩ := List.getElem?_eq_some_iff.mp h
  rw [List.drop_eq_getElem_cons hl, e]
theorem isS_view {g : G} {n : Nat} {v : D} {p : P} (h : view g n v = some p) (hp : isS p = false) : ∃ u, tyOf v g = some u ∧ isTy .str u = false := ⟨_, ty_is h, by rw [isTy_str]; exact hp⟩
section
variable {n : Nat} {g : G} {v w : D} {p : P} {os : List (List Char)} {rs : List (List Char × List Char)}
/-- one room, in the program's text -/
theorem room_turn {O v d : D} {p : P} {ps : List P} {i m : Nat} {ρ : Env} {g' : G} {κ : Kt} (hO : O = .tup (os.map .str)) (hR : RI g O v os ps i ρ g') (hd : view g m d = some p) (hp : ps[i]? = some p) (hz : sm p = true) (hi : i ≤ 1000)
    (good : ∀ ρ2 g2, RI g O v os ps (i + 1) ρ2 g2 → κ.nx ρ2 g2) (bad : roomsGo os [] ps = false → ∀ g2, Only [] g g2 → κ.rt (.bl false) g2) : wpS (w1_good_rooms (ρ.set 3 (some d)) g') κ := by
  obtain ⟨o, ts, y3, y4, y5, rfl, at_, hl, hgo⟩ := hR
  have hv := o.ext.view hd
  rw [drop_at hp] at hgo
  rcases view_inv hv with ⟨rfl, rfl⟩ | ⟨b, rfl, rfl⟩ | ⟨b, rfl, rfl⟩ | ⟨s, rfl, rfl⟩ | ⟨m', es, qs, e, rfl, rfl, h1⟩ | ⟨m', r, xs, qs, e, rfl, hx, rfl, h1⟩
  case inr.inr.inr.inr.inr => simp [lz, ty_ref hx, isTy]; exact bad hgo _ o
  case inr.inr.inr.inr.inl =>
    have hl2 := viewL_len h1
    by_cases h2 : (es.length : Int) = 2
    · rcases es with _ | ⟨a, _ | ⟨b, _ | ⟨c, es⟩⟩⟩
      · simp at h2
      · simp at h2
      · obtain ⟨pa, q1, rfl, ha, h3⟩ := viewL_cons.mp h1
        obtain ⟨pb, q2, rfl, hb, h4⟩ := viewL_cons.mp h3
        rw [viewL_nil.mp h4] at hgo hz
        simp [sm, sms] at hz
        have e1 := is_word ha hz.1
        simp [isTy]
        unfold lz; simp
        unfold lz; simp
        cases hw : wordP pa with
        | false =>
          rw [hw] at e1
          simp [e1]
          exact bad (hgo.trans (go_word hw)) _ o
        | true =>
          rw [hw] at e1
          obtain ⟨nm, rfl⟩ := wordP_s hw
          have ea := view_str ha; subst ea
          have hin : inD (.str nm) (.ref g.length) g' = some (decide (nm ∈ ts)) := in_strs nm (lstOf_lst at_)
          simp [e1, hin]
          by_cases hm : nm ∈ ts
          · simp [hm]
            refine bad (hgo.trans ?_) _ o
            cases pb <;> simp [roomsGo, hm]
          · simp [hm]
            unfold lz
            cases hs : isS pb with
            | false =>
              obtain ⟨u, t1, t2⟩ := isS_view hb hs
              simp [t1, t2]
              exact bad (hgo.trans (go_two (.inr hs))) _ o
            | true =>
              obtain ⟨kp, rfl⟩ := isS_str hs
              have eb := view_str hb; subst eb
              subst hO
              simp [isTy, in_strs_t]
              by_cases hk : kp = []
              · subst hk
                simp [lstOf_lst at_]
                unfold lz; simp [lstOf_lst at_]
                rw [append_lst at_]
                refine ⟨by simp; unfold LINE; omega, good _ _ ⟨o.then (Only.set (ws := [g.length]) (.inl (by simp)) _) (by simp), ts ++ [nm], _, _, _, rfl, by simpa using at_set at_, by simp; omega, ?_⟩⟩
                rw [hgo]; simp [roomsGo, hw, hm]
              · by_cases ho : kp ∈ os
                · simp [hk, ho]
                  unfold lz; simp [lstOf_lst at_]
                  rw [append_lst at_]
                  refine ⟨by simp; unfold LINE; omega, good _ _ ⟨o.then (Only.set (ws := [g.length]) (.inl (by simp)) _) (by simp), ts ++ [nm], _, _, _, rfl, by simpa using at_set at_, by simp; omega, ?_⟩⟩
                  rw [hgo]; simp [roomsGo, hw, hm, ho]
                · simp [hk, ho]
                  refine bad (hgo.trans ?_) _ o
                  simp [roomsGo, hk, ho]
      · simp at h2; omega
    · simp [isTy, h2]
      refine bad (hgo.trans (go_len fun a b z => ?_)) _ o
      subst z
      simp at hl2
      omega
  all_goals (simp [lz, isTy]; exact bad hgo _ o)
end
end K01
end

section
set_option autoImplicit false
set_option linter.all false
/-! k01: check_house, the walk's fault, what the check tells. -/
namespace K01
open Py
section
variable {n : Nat} {g : G} {v w : D} {p : P} {os : List (List Char)} {rs : List (List Char × List Char)}
def bad (i : Int) : D := .tup [.str ['b', 'a', 'd'], .int i]
def fine : D := .tup [.str ['f', 'i', 'n', 'e']]
theorem fault_turn {h O v d : D} {p : P} {ps : List P} {i m : Nat} {ρ : Env} {g' : G} {κ : Kt} (hO : O = .tup (os.map .str)) (hR : RF g h O v os ps i ρ g') (hd : view g m d = some p) (hp : ps[i]? = some p) (hz : sm p = true) (hi : i ≤ 1000)
    (good : ∀ ρ2 g2, RF g h O v os ps (i + 1) ρ2 g2 → κ.nx ρ2 g2) (no : roomsGo os [] ps = false → ∀ g2, Only [] g g2 → κ.rt (bad 1) g2) : wpS (w2__law_fault (ρ.set 5 (some d)) g') κ := by
  obtain ⟨o, ts, y3, y5, rfl, at_, hl, hgo⟩ := hR
  have hv := o.ext.view hd
  rw [drop_at hp] at hgo
  unfold bad at no
  rcases view_inv hv with ⟨rfl, rfl⟩ | ⟨b, rfl, rfl⟩ | ⟨b, rfl, rfl⟩ | ⟨s, rfl, rfl⟩ | ⟨m', es, qs, e, rfl, rfl, h1⟩ | ⟨m', r, xs, qs, e, rfl, hx, rfl, h1⟩
  case inr.inr.inr.inr.inr => simp [lz, ty_ref hx, isTy, LINE]; exact no hgo _ o
  case inr.inr.inr.inr.inl =>
    have hl2 := viewL_len h1
    by_cases h2 : (es.length : Int) = 2
    · rcases es with _ | ⟨a, _ | ⟨b, _ | ⟨c, es⟩⟩⟩
      · simp at h2
      · simp at h2
      · obtain ⟨pa, q1, rfl, ha, h3⟩ := viewL_cons.mp h1
        obtain ⟨pb, q2, rfl, hb, h4⟩ := viewL_cons.mp h3
        rw [viewL_nil.mp h4] at hgo hz
        simp [sm, sms] at hz
        have e1 := law_is_word ha hz.1
        simp [isTy]
        unfold lz; simp
        cases hw : wordP pa with
        | false =>
          rw [hw] at e1
          simp [e1, LINE]
          exact no (hgo.trans (go_word hw)) _ o
        | true =>
          rw [hw] at e1
          obtain ⟨nm, rfl⟩ := wordP_s hw
          have ea := view_str ha; subst ea
          have hin : inD (.str nm) (.ref g.length) g' = some (decide (nm ∈ ts)) := in_strs nm (lstOf_lst at_)
          simp [e1, hin]
          by_cases hm : nm ∈ ts
          · simp [hm, LINE]
            refine no (hgo.trans ?_) _ o
            cases pb <;> simp [roomsGo, hm]
          · simp [hm]
            unfold lz
            cases hs : isS pb with
            | false =>
              obtain ⟨u, t1, t2⟩ := isS_view hb hs
              simp [t1, t2, LINE]
              exact no (hgo.trans (go_two (.inr hs))) _ o
            | true =>
              obtain ⟨kp, rfl⟩ := isS_str hs
              have eb := view_str hb; subst eb
              subst hO
              simp [isTy, in_strs_t]
              by_cases hk : kp = []
              · subst hk
                simp
                unfold lz; simp [lstOf_lst at_]
                rw [append_lst at_]
                refine ⟨by simp; unfold LINE; omega, good _ _ ⟨o.then (Only.set (ws := [g.length]) (.inl (by simp)) _) (by simp), ts ++ [nm], _, _, rfl, by simpa using at_set at_, by simp; omega, ?_⟩⟩
                rw [hgo]; simp [roomsGo, hw, hm]
              · by_cases ho : kp ∈ os
                · simp [hk, ho]
                  unfold lz; simp [lstOf_lst at_]
                  rw [append_lst at_]
                  refine ⟨by simp; unfold LINE; omega, good _ _ ⟨o.then (Only.set (ws := [g.length]) (.inl (by simp)) _) (by simp), ts ++ [nm], _, _, rfl, by simpa using at_set at_, by simp; omega, ?_⟩⟩
                  rw [hgo]; simp [roomsGo, hw, hm, ho]
                · simp [hk, ho, LINE]
                  refine no (hgo.trans ?_) _ o
                  simp [roomsGo, hk, ho]
      · simp at h2; omega
    · simp [isTy, h2, LINE]
      refine no (hgo.trans (go_len fun a b z => ?_)) _ o
      subst z
      simp at hl2
      omega
  all_goals (simp [lz, isTy, LINE]; exact no hgo _ o)
theorem good_rooms {Q : D → G → Prop} (h : view g n v = some p) (hz : sm p = true) (q : ∀ g', Only [] g g' → Q (.bl (roomsP os p)) g') : wp (f_good_rooms [.tup (os.map .str), v] g) Q := by
  unfold f_good_rooms
  unfold b_good_rooms
  have k0 := q g (Only.refl _ _)
  rcases view_inv h with ⟨rfl, rfl⟩ | ⟨b, rfl, rfl⟩ | ⟨b, rfl, rfl⟩ | ⟨s, rfl, rfl⟩ | ⟨m, ds, ps, e, rfl, rfl, h1⟩ | ⟨m, r, xs, ps, e, rfl, hx, rfl, h1⟩
  case inr.inr.inr.inr.inr => simp [ty_ref hx, isTy, roomsP] at k0 ⊢; exact k0
  case inr.inr.inr.inr.inl =>
    have hl := viewL_len h1
    simp [sm] at hz
    by_cases h0 : (1 : Int) ≤ ds.length
    · by_cases h8 : (ds.length : Int) ≤ 6
      · simp [isTy, h0, h8]
        unfold lz; simp
        unfold lz; simp
        refine for_itL (RI g (.tup (os.map .str)) (.tup ds) os ps) ⟨Only.snoc _ _ _, [], none, none, none, rfl, by simp, by simp, by simp⟩ ?_ ?_
        · intro i d ρ g' hd hR
          obtain ⟨p, hp, hv⟩ := viewL_get h1 hd
          have hi := (List.getElem?_eq_some_iff.mp hd).1
          refine ⟨_, rfl, ?_⟩
          refine room_turn rfl hR hv hp (sm_mem hz.2 (List.mem_of_getElem? hp)) (by omega) (fun ρ2 g2 h2 => h2) fun hb g2 o => ?_
          have : roomsP os (.tup ps) = false := by simp [roomsP, hb]
          rw [this] at q
          exact q g2 o
        · rintro ρ g' ⟨o, ts, y3, y4, y5, rfl, at_, hl2, hgo⟩
          have : roomsP os (.tup ps) = true := by
            rw [← hl, List.drop_length] at hgo
            simp [roomsP, hgo, roomsGo]
            omega
          rw [this] at q
          unfold lz; simp
          exact q g' o
      · have : roomsP os (.tup ps) = false := by simp [roomsP]; omega
        rw [this] at k0
        simp [isTy, h0, h8, k0]
    · have : roomsP os (.tup ps) = false := by simp [roomsP]; omega
      rw [this] at k0
      simp [isTy, h0, k0]
  all_goals (simp [isTy, roomsP] at k0 ⊢; exact k0)
end
end K01
end

section
set_option autoImplicit false
set_option linter.all false
namespace K01
open Py
section
variable {n : Nat} {g : G} {v w o r : D} {p po pr : P} {os : List (List Char)} {rs : List (List Char × List Char)}
theorem check_bad0 (ho : view g n o = some po) (zo : sm po = true) (hb : ownersP po = false) :
    f_check_house [.tup [o, r]] g = .exc ⟨"BadHouse", some g.length⟩ (g ++ [.xd [("place", .int 0)]]) := by
  have e1 := good_owners ho zo
  rw [hb] at e1
  simp [f_check_house, fn, b_check_house, sSeq, sAsg, onR, gTup, gCons, gName, gNil, sIf, e1, sRaise]
theorem check_ok (ho : view g n o = some po) (hr : view g n r = some pr) (zo : sm po = true) (zr : sm pr = true) (hg : ownersP po = true) (eo : o = .tup (os.map .str)) :
    ∃ g', Only [] g g' ∧ f_check_house [.tup [o, r]] g = if roomsP os pr = true then .ok .non g' else .exc ⟨"BadHouse", some g'.length⟩ (g' ++ [.xd [("place", .int 1)]]) := by
  have e1 := good_owners ho zo
  rw [hg] at e1
  subst eo
  obtain ⟨x, g', e2, o', hx⟩ := wp_ok_of (good_rooms (os := os) (Q := fun d g' => Only [] g g' ∧ d = .bl (roomsP os pr)) hr zr fun g' o => ⟨o, rfl⟩)
  subst hx
  refine ⟨g', o', ?_⟩
  cases hr : roomsP os pr <;> rw [hr] at e2 <;> simp [f_check_house, fn, b_check_house, sSeq, sAsg, onR, gTup, gCons, gName, gNil, sIf, e1, e2, sRaise, sNil]
theorem words_of {m : Nat} {ds : List D} {ps : List P} (h : viewL (view g m) ds = some ps) (hw : ps.all wordP = true) : ∃ os : List (List Char), ds = os.map .str ∧ ps = os.map .str := by
  induction ds generalizing ps with
  | nil => rw [viewL_nil.mp h]; exact ⟨[], rfl, rfl⟩
  | cons d ds ih =>
    obtain ⟨p, qs, rfl, h1, h2⟩ := viewL_cons.mp h
    simp at hw
    obtain ⟨s, rfl⟩ := wordP_s hw.1
    obtain ⟨os, e1, e2⟩ := ih h2 (by simpa using hw.2)
    exact ⟨s :: os, by rw [view_str h1, e1]; rfl, by rw [e2]; rfl⟩
theorem law_fault_ok {Q : D → G → Prop} (ho : view g n o = some po) (hr : view g n r = some pr) (zo : sm po = true) (zr : sm pr = true) 
    (q0 : ownersP po = false → Q (bad 0) g) (q1 : ∀ os g', ownersP po = true → o = .tup (os.map .str) → Only [] g g' → Q (if roomsP os pr = true then fine else bad 1) g') : wp (f__law_fault [.tup [o, r]] g) Q := by
  unfold f__law_fault b__law_fault
  simp
  unfold lz; simp
  unfold lz
  rcases view_inv ho with ⟨rfl, rfl⟩ | ⟨b, rfl, rfl⟩ | ⟨b, rfl, rfl⟩ | ⟨s, rfl, rfl⟩ | ⟨m, ds, ps, e, rfl, rfl, h1⟩ | ⟨m, x, xs, ps, e, rfl, hx, rfl, h1⟩
  case inr.inr.inr.inr.inr => simp [ty_ref hx, isTy, LINE]; exact q0 rfl
  case inr.inr.inr.inr.inl =>
    have hl := viewL_len h1
    simp [sm] at zo
    by_cases h0 : (ds.length : Int) < 1
    · simp [isTy, h0, LINE]; exact q0 (by simp [ownersP]; omega)
    by_cases h8 : 8 < (ds.length : Int)
    · simp [isTy, h0, h8, LINE]; exact q0 (by simp [ownersP]; omega)
    simp [isTy, h0, h8]
    unfold lz; simp
    refine for_itL (fun i ρ g' => g' = g ∧ (∃ y, ρ = [some (.tup [.tup ds, r]), some (.tup ds), some r, y, none, none]) ∧ (ps.take i).all wordP = true) ⟨rfl, ⟨none, rfl⟩, by simp⟩ ?_ ?_
    · rintro i d ρ _ hd ⟨rfl, ⟨y, rfl⟩, hw⟩
      obtain ⟨p, hp, hv⟩ := viewL_get h1 hd
      refine ⟨_, rfl, ?_⟩
      have e2 := law_is_word hv (sm_mem zo.2 (List.mem_of_getElem? hp))
      cases hq : wordP p with
      | false =>
        rw [hq] at e2
        simp [e2, LINE]
        refine q0 ?_
        have : ps.all wordP = false := by rw [List.all_eq_false]; exact ⟨p, List.mem_of_getElem? hp, by simp [hq]⟩
        simp only [ownersP, this, Bool.and_false]
      | true =>
        rw [hq] at e2
        simp only [List.take_add_one, hp, Option.toList_some, List.all_append, hw, List.all_cons, hq, List.all_nil, Bool.and_self]
        simp [e2]
    rintro ρ _ ⟨rfl, ⟨y, rfl⟩, hw⟩
    rw [← hl, List.take_length] at hw
    obtain ⟨os, rfl, rfl⟩ := words_of h1 hw
    have go : ownersP (.tup (os.map .str)) = true := by
      simp only [ownersP, hw]
      simp at h0 h8 ⊢
      omega
    have q1 := q1 os
    have k1 := fun (h : roomsP os pr = false) => by
      have z := q1 _ go rfl (Only.refl _ _)
      rw [h, if_neg (by simp)] at z
      exact z
    unfold bad at k1
    clear q0
    unfold lz
    rcases view_inv hr with ⟨rfl, rfl⟩ | ⟨b, rfl, rfl⟩ | ⟨b, rfl, rfl⟩ | ⟨s, rfl, rfl⟩ | ⟨m2, es, qs, e, rfl, rfl, h2⟩ | ⟨m2, x, xs, qs, e, rfl, hx, rfl, h2⟩
    case inr.inr.inr.inr.inr => simp [ty_ref hx, isTy, LINE]; exact k1 rfl
    case inr.inr.inr.inr.inl =>
      have hl2 := viewL_len h2
      simp [sm] at zr
      by_cases h02 : (es.length : Int) < 1
      · simp [isTy, h02, LINE]; exact k1 (by simp [roomsP]; omega)
      by_cases h82 : 6 < (es.length : Int)
      · simp [isTy, h02, h82, LINE]; exact k1 (by simp [roomsP]; omega)
      simp [isTy, h02, h82]
      unfold lz; simp
      unfold lz; simp
      refine for_itL (RF _ (.tup [.tup (os.map .str), .tup es]) (.tup (os.map .str)) (.tup es) os qs) ⟨Only.snoc _ _ _, [], y, none, rfl, by simp, by simp, by simp⟩ ?_ ?_
      · intro i d ρ g' hd hR
        obtain ⟨p, hp, hv⟩ := viewL_get h2 hd
        have hi := (List.getElem?_eq_some_iff.mp hd).1
        refine ⟨_, rfl, ?_⟩
        refine fault_turn rfl hR hv hp (sm_mem zr.2 (List.mem_of_getElem? hp)) (by omega) (fun ρ2 g2 h2 => h2) fun hb g2 o => ?_
        have : roomsP os (.tup qs) = false := by simp [roomsP, hb]
        have z := q1 g2 go rfl o
        rw [this, if_neg (by simp)] at z
        exact z
      · rintro ρ g' ⟨o, ts, y3, y5, rfl, at_, hl3, hgo⟩
        have : roomsP os (.tup qs) = true := by
          rw [← hl2, List.drop_length] at hgo
          simp [roomsP, hgo, roomsGo]
          omega
        have z := q1 g' go rfl o
        rw [this, if_pos rfl] at z
        unfold fine at z
        unfold lz; simp [LINE]
        exact z
    all_goals (simp [isTy, LINE]; exact k1 rfl)
  all_goals (simp [isTy, LINE]; exact q0 rfl)
end
end K01
end

section
set_option autoImplicit false
set_option linter.all false
namespace K01
open Py
section
variable {n : Nat} {g : G} {v w o r : D} {p po pr : P} {os : List (List Char)} {rs : List (List Char × List Char)}
theorem checked_ok {Q : D → G → Prop} (ho : view g n o = some po) (hr : view g n r = some pr) (zo : sm po = true) (zr : sm pr = true)
    (q0 : ownersP po = false → ∀ g', Only [] g g' → Q (bad 0) g') (q1 : ∀ os g', ownersP po = true → o = .tup (os.map .str) → Only [] g g' → Q (if roomsP os pr = true then fine else bad 1) g') (he : ownersP po = true → ∃ os : List (List Char), o = .tup (os.map .str)) : wp (f__law_checked [.tup [o, r]] g) Q := by
  unfold f__law_checked b__law_checked
  simp
  unfold lz; simp
  cases hg : ownersP po with
  | false =>
    have e := check_bad0 (r := r) ho zo hg
    rw [try_ret (g0 := g) (fs := [("place", .int 0)]) (c := "BadHouse") (d := bad 0) (asg_exc (by simp [e])) (by simp)]
    · simp
      exact q0 hg _ (Only.snoc _ _ _)
    · intro a b
      simp [isE_at, bad]
      unfold lz
      simp [isE_at]
      unfold lz
      simp [fldE_at, LINE]
  | true =>
    obtain ⟨os, rfl⟩ := he hg
    obtain ⟨g', o', e⟩ := check_ok ho hr zo zr hg rfl
    cases h : roomsP os pr with
    | false =>
      rw [h, if_neg (by simp)] at e
      rw [try_ret (c := "BadHouse") (g0 := g') (fs := [("place", .int 1)]) (d := bad 1) (asg_exc (by simp [e])) (by simp)]
      · simp
        have z := q1 os _ hg rfl (o'.trans (Only.snoc _ _ (.xd [("place", .int 1)])))
        rw [h, if_neg (by simp)] at z
        exact z
      · intro a b
        simp [isE_at, bad]
        unfold lz
        simp [isE_at]
        unfold lz
        simp [fldE_at, LINE]
    | true =>
      rw [h, if_pos rfl] at e
      rw [try_next (asg_next (d := .non) (g1 := g') (by simp [e]) rfl)]
      simp
      unfold lz; simp
      unfold lz; simp [LINE]
      have z := q1 os _ hg rfl o'
      rw [h, if_pos rfl] at z
      exact z
end
end K01
end

section
set_option autoImplicit false
set_option linter.all false
/-! k01: a good house's walks. -/
namespace K01
open Py
def devs (f : List Char → Bool) : Int → List (List Char) → List D
  | _, [] => []
  | k, o :: r => if f o then .int k :: devs f (k + 1) r else devs f (k + 1) r
def kpE (f : List Char → Bool) (_ : Nat) : D → Option D
  | .tup [.int j, .str o] => if f o then some (.int j) else none
  | _ => none
theorem fil_pairs (f : List Char → Bool) : ∀ (os : List (List Char)) (k i : Nat), filmap (kpE f) i (pairs k (os.map .str)) = devs f k os
  | [], _, _ => rfl
  | o :: os, k, i => by
    have ih := fil_pairs f os (k + 1) (i + 1)
    have e : ((k + 1 : Nat) : Int) = (k : Int) + 1 := by omega
    rw [e] at ih
    show (match (if f o = true then some (D.int k) else none) with | some y => y :: filmap (kpE f) (i + 1) (pairs (k + 1) (os.map .str)) | none => filmap (kpE f) (i + 1) (pairs (k + 1) (os.map .str))) = if f o then .int k :: devs f (k + 1) os else devs f (k + 1) os
    rw [ih]
    cases f o <;> rfl
section
variable {g : G} {os : List (List Char)} {rs : List (List Char × List Char)} {person room : List Char}
theorem devices_ok (hl : os.length ≤ 1000) : f_devices_of [HD os rs, .str person] g = if devs (· == person) 0 os = [] then .exc ⟨"UnknownPerson", some (g.length + 1)⟩ (g ++ [.lst []] ++ [.xd [("person", .str person)]]) else .ok (.ref g.length) (g ++ [.lst (devs (· == person) 0 os)]) := by
  have e : ∀ ρ : Env, ρ[0]? = some (some (HD os rs)) → ρ[1]? = some (some (.str person)) → ρ.length = 5 → mLc (iEnum (mOp (p2 oIdx) (mVar 0) (mC (.int 0)))) (gTup (gCons (gName 3) (gCons (gName 4) (gNil)))) (tVal (mOp (p2 oEq) (mVar 4) (mVar 1))) (mVar 3) [3, 4] ρ g = .ok (.ref g.length) (g ++ [.lst (devs (· == person) 0 os)]) := by
    intro ρ h0 h1 hn
    simp [h0, HD, iterOf]
    rw [itEn_n]
    rw [lc_fil (ds := pairs 0 (os.map .str)) (kpE (· == person)) (fun i acc => itEn_get _ _ _) (by rw [pairs_len]; simp; unfold LINE; omega)]
    · have z := fil_pairs (· == person) os 0 0
      rw [z]; rfl
    · intro i d acc hd
      rw [pairs_get] at hd
      simp at hd
      obtain ⟨o, ho, rfl⟩ := hd
      have hw : ∀ j : Nat, j < 3 → (wipe ρ [3, 4])[j]? = ρ[j]? := by
        intro j hj
        simp [wipe]
        rw [List.getElem?_set_ne (by omega), List.getElem?_set_ne (by omega)]
      refine ⟨_, rfl, ?_⟩
      have h1' : (((wipe ρ [3, 4]).set 3 (some (D.int i))).set 4 (some (.str o)))[1]? = some (some (.str person)) := by
        rw [List.getElem?_set_ne (by omega), List.getElem?_set_ne (by omega), hw 1 (by omega), h1]
      have hwl : (wipe ρ [3, 4]).length = 5 := by simp [wipe, hn]
      have h3' : (((wipe ρ [3, 4]).set 3 (some (D.int i))).set 4 (some (.str o)))[3]? = some (some (.int i)) := by
        rw [List.getElem?_set_ne (by omega), List.getElem?_set_self (by omega)]
      have h4' : (((wipe ρ [3, 4]).set 3 (some (D.int i))).set 4 (some (.str o)))[4]? = some (some (.str o)) := by
        rw [List.getElem?_set_self (by simp; omega)]
      simp [h1', h3', h4', kpE]
      by_cases hp : o = person <;> simp [hp]
  unfold f_devices_of fn b_devices_of
  have e2 := e ([some (HD os rs), some (.str person), none, none, none]) rfl rfl rfl
  simp only [List.length_cons, List.length_nil, List.map_cons, List.map_nil, List.cons_append, List.nil_append, if_true]
  rw [show List.replicate (5 - 2) (none : Option D) = [none, none, none] from rfl]
  rw [seq_next (asg_next (ρ1 := [some (HD os rs), some (.str person), some (.ref g.length), none, none]) e2 rfl)]
  have tr : truth (.ref g.length) (g ++ [.lst (devs (· == person) 0 os)]) = some (!(devs (· == person) 0 os).isEmpty) := by simp [truth]
  by_cases hd : devs (· == person) 0 os = []
  · rw [if_pos hd]
    rw [hd] at tr ⊢
    simp [sSeq, sIf, onR, tr, sRaise]
  · rw [if_neg hd]
    have : (devs (· == person) 0 os).isEmpty = false := by simpa using hd
    rw [this] at tr
    simp [sSeq, sIf, onR, tr, sNil, sRet]
end
end K01
end

section
set_option autoImplicit false
set_option linter.all false
namespace K01
open Py
def devP (f : List Char → Bool) : Int → List (List Char) → List P
  | _, [] => []
  | k, o :: r => if f o then .int k :: devP f (k + 1) r else devP f (k + 1) r
theorem dev_view (f : List Char → Bool) (g : G) (n : Nat) : ∀ (os : List (List Char)) (k : Int), viewL (view g n) (devs f k os) = some (devP f k os)
  | [], _ => rfl
  | o :: os, k => by
    unfold devs devP
    by_cases h : f o = true
    · rw [if_pos h, if_pos h]; exact viewL_cons.mpr ⟨_, _, rfl, by simp [view], dev_view f g n os (k + 1)⟩
    · rw [if_neg h, if_neg h]; exact dev_view f g n os (k + 1)
theorem dev_nil (f : List Char → Bool) : ∀ (os : List (List Char)) (k : Int), devs f k os = [] ↔ ∀ o ∈ os, f o = false
  | [], _ => by simp [devs]
  | o :: os, k => by
    unfold devs
    have ih := dev_nil f os (k + 1)
    cases h : f o <;> simp [h, ih]
def toldL : List Char := ['t', 'o', 'l', 'd']
def dueDev (os : List (List Char)) (p : List Char) : P := if devs (· == p) 0 os = [] then .tup [.str lit_3, .str p] else .tup [.str toldL, .lst (devP (· == p) 0 os)]
def dueKeep (rs : List (List Char × List Char)) (room : List Char) : P := match rs.find? (fun x => x.1 == room) with | some x => .tup [.str toldL, .str x.2] | none => .tup [.str lit_4, .str room]
section
variable {g : G} {os : List (List Char)} {rs : List (List Char × List Char)} {person room : List Char}
theorem view2 {s : List Char} {v : D} {q : P} (h : view g 1 v = some q) : view g 2 (.tup [.str s, v]) = some (.tup [.str s, q]) := by
  simp only [view]
  rw [viewL_cons.mpr ⟨.str s, [q], rfl, by simp [view], viewL_cons.mpr ⟨q, [], rfl, h, rfl⟩⟩]
  rfl
theorem view_str1 {s : List Char} : view g 1 (.str s) = some (.str s) := by simp [view]
theorem view_dev {r : Nat} {f : List Char → Bool} {k : Int} (h : g[r]? = some (.lst (devs f k os))) : view g 1 (.ref r) = some (.lst (devP f k os)) := by
  simp only [view]
  rw [lstOf_lst h]
  dsimp only
  rw [dev_view]
  rfl
theorem law_devices_ok (hl : os.length ≤ 1000) {Q : D → G → Prop} (q : ∀ v g', Only [] g g' → view g' 2 v = some (dueDev os person) → Q v g') : wp (f__law_devices [HD os rs, .str person] g) Q := by
  unfold f__law_devices b__law_devices
  simp
  unfold lz; simp
  have e := devices_ok (g := g ++ [.lst []]) (rs := rs) (person := person) hl
  by_cases hd : devs (· == person) 0 os = []
  · rw [if_pos hd] at e
    have hlen : (g ++ [O.lst []]).length + 1 = (g ++ [O.lst []] ++ [O.lst []]).length := by simp
    rw [hlen] at e
    rw [try_ret (c := "UnknownPerson") (g0 := g ++ [.lst []] ++ [.lst []]) (fs := [("person", .str person)]) (d := .tup [.str lit_3, .str person]) (asg_exc (by simp [-List.append_assoc, e])) (by simp)]
    · simp
      refine q _ _ ?_ ?_
      · have := ((Only.snoc [] g (.lst [])).trans (Only.snoc [] _ (.lst []))).trans (Only.snoc [] _ (.xd [("person", .str person)]))
        simpa using this
      · unfold dueDev
        rw [if_pos hd]
        exact view2 view_str1
    · intro a b
      generalize g ++ [O.lst []] ++ [O.lst []] = g0
      simp [isE_at]
      unfold lz
      simp [fldE_at, LINE]
  · rw [if_neg hd] at e
    rw [try_next (asg_next (d := .ref (g ++ [O.lst []]).length) (g1 := g ++ [.lst []] ++ [.lst (devs (· == person) 0 os)]) (by simp [-List.append_assoc, e]) rfl)]
    simp
    unfold lz; simp [LINE]
    refine q _ _ ?_ ?_
    · have := (Only.snoc [] g (.lst [])).trans (Only.snoc [] _ (.lst (devs (· == person) 0 os)))
      simpa using this
    · unfold dueDev
      rw [if_neg hd]
      exact view2 (view_dev (k := 0) (f := (· == person)) (by simp))
end
end K01
end

section
set_option autoImplicit false
set_option linter.all false
namespace K01
open Py
def kpR (f : List Char → Bool) (os : List (List Char)) (_ : Nat) : D → Option D
  | .int j => match os[j.toNat]? with | some o => if f o then some (.int j) else none | none => none
  | _ => none
theorem fil_rng (f : List Char → Bool) (os : List (List Char)) : ∀ (rest : List (List Char)) (k i : Nat), os.drop k = rest → filmap (kpR f os) i ((List.range' k rest.length).map fun (j : Nat) => D.int (j : Int)) = devs f k rest
  | [], k, i, _ => by simp [filmap, devs]
  | o :: rest, k, i, h => by
    have ho : os[k]? = some o := by
      have : (os.drop k)[0]? = some o := by rw [h]; rfl
      simpa using this
    have hd : os.drop (k + 1) = rest := by
      have : (os.drop k).drop 1 = rest := by rw [h]; rfl
      rw [List.drop_drop] at this
      simpa [Nat.add_comm] using this
    have ih := fil_rng f os rest (k + 1) (i + 1) hd
    have e : ((k + 1 : Nat) : Int) = (k : Int) + 1 := by omega
    rw [e] at ih
    rw [List.length_cons, List.range'_succ, List.map_cons]
    have hk : kpR f os i (.int (k : Int)) = if f o then some (.int (k : Int)) else none := by
      simp [kpR, ho]
    unfold filmap devs
    rw [hk, ih]
    cases f o <;> rfl
theorem rng_eq (n : Nat) : rng 0 n = (List.range' 0 n).map fun (j : Nat) => D.int (j : Int) := by
  unfold rng
  rw [List.range_eq_range']
  exact List.map_congr_left fun k _ => by simp
section
variable {g : G} {os : List (List Char)} {rs : List (List Char × List Char)} {person room : List Char}
theorem hd_0 : oIdx (HD os rs) (.int 0) g = some (.tup (os.map .str)) := rfl
theorem hd_1 : oIdx (HD os rs) (.int 1) g = some (.tup (rs.map fun r => .tup [.str r.1, .str r.2])) := rfl
theorem due_devices_ok (hl : os.length ≤ 1000) {Q : D → G → Prop} (q : ∀ v g', Only [] g g' → view g' 2 v = some (dueDev os person) → Q v g') : wp (f__law_due_devices [HD os rs, .str person] g) Q := by
  unfold f__law_due_devices b__law_due_devices
  simp [hd_0]
  refine ⟨small_int (by omega) (by omega), ?_⟩
  rw [show (itL (rng 0 os.length)).n = (rng 0 os.length).length from rfl]
  rw [lc_fil (ds := rng 0 os.length) (kpR (· == person) os) (fun i acc => rfl) (by simp [rng]; unfold LINE; omega)]
  · rw [rng_eq]
    have z := fil_rng (· == person) os os 0 0 rfl
    rw [z]
    simp
    unfold lz
    have hlen : (devs (· == person) 0 os = []) ↔ (devs (· == person) 0 os).length = 0 := by simp
    simp [len_ref (lstOf_lst (get_snoc g (.lst (devs (· == person) 0 os))))]
    by_cases hd : devs (· == person) 0 os = []
    · simp [hd, LINE]
      refine q _ _ (Only.snoc _ _ _) ?_
      unfold dueDev
      rw [if_pos hd]
      exact view2 view_str1
    · simp [hd]
      unfold lz; simp [LINE]
      refine q _ _ (Only.snoc _ _ _) ?_
      unfold dueDev
      rw [if_neg hd]
      exact view2 (view_dev (k := 0) (f := (· == person)) (by simp))
  · intro i d acc hd
    obtain ⟨hi, rfl⟩ := rng_at hd
    refine ⟨_, rfl, ?_⟩
    simp [wipe, hd_0, atI_nat, List.getElem?_eq_getElem hi, kpR]
    by_cases hp : os[i] = person <;> simp [hp]
theorem keeper_ok : f_keeper_of [HD os rs, .str room] g = match rs.find? (fun x => x.1 == room) with | some x => .ok (.str x.2) g | none => .exc ⟨"UnknownRoom", some g.length⟩ (g ++ [.xd [("room", .str room)]]) := by
  have key : ∀ (ls : List (List Char × List Char)) (k : Nat) (ρ : Env), rs.drop k = ls → ρ[1]? = some (some (.str room)) → ρ.length = 4 →
      (∃ x, ls.find? (fun x => x.1 == room) = some x ∧ forGo (itL (rs.map fun r => .tup [.str r.1, .str r.2])).get (gTup (gCons (gName 2) (gCons (gName 3) (gNil)))) w1_keeper_of (ls.length + 1) k ρ g = .ret (.str x.2) g) ∨
      (ls.find? (fun x => x.1 == room) = none ∧ ∃ ρ', forGo (itL (rs.map fun r => .tup [.str r.1, .str r.2])).get (gTup (gCons (gName 2) (gCons (gName 3) (gNil)))) w1_keeper_of (ls.length + 1) k ρ g = .next ρ' g ∧ ρ'[1]? = some (some (.str room))) := by
    intro ls
    induction ls with
    | nil =>
      intro k ρ h h1 hn
      refine .inr ⟨rfl, ρ, ?_, h1⟩
      have : rs[k]? = none := by rw [List.getElem?_eq_none_iff]; exact List.drop_eq_nil_iff.mp h
      simp [forGo, itL, this]
    | cons x ls ih =>
      intro k ρ h h1 hn
      have ho : rs[k]? = some x := by
        have : (rs.drop k)[0]? = some x := by rw [h]; rfl
        simpa using this
      have hd : rs.drop (k + 1) = ls := by
        have : (rs.drop k).drop 1 = ls := by rw [h]; rfl
        rw [List.drop_drop] at this
        simpa [Nat.add_comm] using this
      have h1' : ((ρ.set 2 (some (.str x.1))).set 3 (some (.str x.2)))[1]? = some (some (.str room)) := by
        rw [List.getElem?_set_ne (by omega), List.getElem?_set_ne (by omega), h1]
      have h2' : ((ρ.set 2 (some (.str x.1))).set 3 (some (.str x.2)))[2]? = some (some (.str x.1)) := by
        rw [List.getElem?_set_ne (by omega), List.getElem?_set_self (by omega)]
      have h3' : ((ρ.set 2 (some (.str x.1))).set 3 (some (.str x.2)))[3]? = some (some (.str x.2)) := by
        rw [List.getElem?_set_self (by simp; omega)]
      have st : forGo (itL (rs.map fun r => .tup [.str r.1, .str r.2])).get (gTup (gCons (gName 2) (gCons (gName 3) (gNil)))) w1_keeper_of ((x :: ls).length + 1) k ρ g =
          if x.1 = room then .ret (.str x.2) g else forGo (itL (rs.map fun r => .tup [.str r.1, .str r.2])).get (gTup (gCons (gName 2) (gCons (gName 3) (gNil)))) w1_keeper_of (ls.length + 1) (k + 1) ((ρ.set 2 (some (.str x.1))).set 3 (some (.str x.2))) g := by
        rw [List.length_cons]
        conv => lhs; unfold forGo
        have it : (itL (rs.map fun r => D.tup [.str r.1, .str r.2])).get k g = some (some (.tup [.str x.1, .str x.2])) := by simp [itL, ho]
        rw [it]
        simp only [gTup, gCons, gName, gNil, Option.bind_some]
        simp only [w1_keeper_of, sIf, onR, x_tVal, x_op, x_var, h1', h2', vr_some, R.bind_ok, ofO_p2, eq_def, eqD_str, Option.map_some, ofP_some, x_asB]
        by_cases hx : x.1 = room
        · have hb : (x.1 == room) = true := by simpa using hx
          rw [if_pos hx]
          simp only [hb, if_true, sRet, onR, x_var, h3', vr_some]
        · simp [hx, sNil]
      by_cases hx : x.1 = room
      · refine .inl ⟨x, by simp [hx], by rw [st, if_pos hx]⟩
      · rw [st, if_neg hx]
        have hf : (x :: ls).find? (fun x => x.1 == room) = ls.find? (fun x => x.1 == room) := by simp [hx]
        rw [hf]
        exact ih (k + 1) _ hd h1' (by simp [hn])
  unfold f_keeper_of fn b_keeper_of
  simp only [List.length_cons, List.length_nil, List.map_cons, List.map_nil, List.cons_append, List.nil_append, if_true]
  rw [show List.replicate (4 - 2) (none : Option D) = [none, none] from rfl]
  have lp : ∀ b : S, sFor (iAny (mOp (p2 oIdx) (mVar 0) (mC (.int 1)))) (gTup (gCons (gName 2) (gCons (gName 3) (gNil)))) b [some (HD os rs), some (.str room), none, none] g = forGo (itL (rs.map fun r => .tup [.str r.1, .str r.2])).get (gTup (gCons (gName 2) (gCons (gName 3) (gNil)))) b (rs.length + 1) 0 [some (HD os rs), some (.str room), none, none] g := by
    intro b
    simp [sFor, onR, hd_1, iterOf, itL]
  rcases key rs 0 [some (HD os rs), some (.str room), none, none] rfl rfl rfl with ⟨x, hx, hf⟩ | ⟨hx, ρ', hf, h1⟩
  · rw [hx, seq_ret (by rw [lp]; exact hf)]
  · rw [hx, seq_next (by rw [lp]; exact hf)]
    simp [q1_keeper_of, sRaise, onR, h1]
end
end K01
end

section
set_option autoImplicit false
set_option linter.all false
namespace K01
open Py
def dueKeepD (rs : List (List Char × List Char)) (room : List Char) : D := match rs.find? (fun x => x.1 == room) with | some x => .tup [.str toldL, .str x.2] | none => .tup [.str lit_4, .str room]
section
variable {g : G} {os : List (List Char)} {rs : List (List Char × List Char)} {person room : List Char}
theorem due_keeper_ok {Q : D → G → Prop} (q : Q (dueKeepD rs room) g) : wp (f__law_due_keeper [HD os rs, .str room] g) Q := by
  unfold f__law_due_keeper b__law_due_keeper
  simp [hd_1, iterOf]
  refine for_itL (ds := rs.map fun r => D.tup [.str r.1, .str r.2]) (fun i ρ g' => g' = g ∧ (∃ y, ρ = [some (HD os rs), some (.str room), y]) ∧ rs.find? (fun x => x.1 == room) = (rs.drop i).find? (fun x => x.1 == room)) ⟨rfl, ⟨none, rfl⟩, by simp⟩ ?_ ?_
  · rintro i d ρ _ hd ⟨rfl, ⟨y, rfl⟩, hf⟩
    rw [List.getElem?_map, Option.map_eq_some_iff] at hd
    obtain ⟨x, hx, rfl⟩ := hd
    refine ⟨_, rfl, ?_⟩
    rw [drop_at hx] at hf
    by_cases h : x.1 = room
    · have hb : (x.1 == room) = true := by simpa using h
      simp only [List.find?_cons, hb] at hf
      unfold dueKeepD at q
      rw [hf] at q
      simp [hb, h, LINE]
      exact q
    · have hb : (x.1 == room) = false := by simpa using h
      simp only [List.find?_cons, hb] at hf
      simp [h]
      exact hf
  · rintro ρ _ ⟨rfl, ⟨y, rfl⟩, hf⟩
    have : rs.find? (fun x => x.1 == room) = none := by rw [hf]; simp
    unfold dueKeepD at q
    rw [this] at q
    unfold lz; simp [LINE]
    exact q
theorem law_keeper_ok {Q : D → G → Prop} (q : ∀ g', Only [] g g' → Q (dueKeepD rs room) g') : wp (f__law_keeper [HD os rs, .str room] g) Q := by
  unfold f__law_keeper b__law_keeper
  simp
  unfold lz; simp
  have e := keeper_ok (g := g) (os := os) (rs := rs) (room := room)
  unfold dueKeepD at q
  cases hf : rs.find? (fun x => x.1 == room) with
  | some x =>
    rw [hf] at e q
    rw [try_next (asg_next (d := .str x.2) (g1 := g) (by simp [e]) rfl)]
    simp
    unfold lz; simp [LINE]
    exact q g (Only.refl _ _)
  | none =>
    rw [hf] at e q
    rw [try_ret (c := "UnknownRoom") (g0 := g) (fs := [("room", .str room)]) (d := .tup [.str lit_4, .str room]) (asg_exc (by simp [e])) (by simp)]
    · simp
      exact q _ (Only.snoc _ _ _)
    · intro a b
      simp [isE_at]
      unfold lz
      simp [fldE_at, LINE]
/-- droppers' last comprehension -/
theorem drop_lc {kp : List Char} (hl : os.length ≤ 1000) {ρ : Env} (h0 : ρ[0]? = some (some (HD os rs))) (h2 : ρ[2]? = some (some (.str person))) (h3 : ρ[3]? = some (some (.str kp))) (hn : ρ.length = 6) :
    mLc (iEnum (mOp (p2 oIdx) (mVar 0) (mC (.int 0)))) (gTup (gCons (gName 4) (gCons (gName 5) (gNil)))) (tVal (mOp (p2 oIn) (mVar 5) (mTup (mCons (mVar 2) (mCons (mVar 3) (mNil)))))) (mVar 4) [4, 5] ρ g = .ok (.ref g.length) (g ++ [.lst (devs (fun o => o == person || o == kp) 0 os)]) := by
  simp [h0, HD, iterOf]
  rw [itEn_n]
  rw [lc_fil (ds := pairs 0 (os.map .str)) (kpE (fun o => o == person || o == kp)) (fun i acc => itEn_get _ _ _) (by rw [pairs_len]; simp; unfold LINE; omega)]
  · have z := fil_pairs (fun o => o == person || o == kp) os 0 0
    rw [z]; rfl
  · intro i d acc hd
    rw [pairs_get] at hd
    simp at hd
    obtain ⟨o, ho, rfl⟩ := hd
    have hw : ∀ j : Nat, j < 4 → (wipe ρ [4, 5])[j]? = ρ[j]? := by
      intro j hj
      simp [wipe]
      rw [List.getElem?_set_ne (by omega), List.getElem?_set_ne (by omega)]
    refine ⟨_, rfl, ?_⟩
    have hwl : (wipe ρ [4, 5]).length = 6 := by simp [wipe, hn]
    have h2' : (((wipe ρ [4, 5]).set 4 (some (D.int i))).set 5 (some (.str o)))[2]? = some (some (.str person)) := by
      rw [List.getElem?_set_ne (by omega), List.getElem?_set_ne (by omega), hw 2 (by omega), h2]
    have h3' : (((wipe ρ [4, 5]).set 4 (some (D.int i))).set 5 (some (.str o)))[3]? = some (some (.str kp)) := by
      rw [List.getElem?_set_ne (by omega), List.getElem?_set_ne (by omega), hw 3 (by omega), h3]
    have h4' : (((wipe ρ [4, 5]).set 4 (some (D.int i))).set 5 (some (.str o)))[4]? = some (some (.int i)) := by
      rw [List.getElem?_set_ne (by omega), List.getElem?_set_self (by omega)]
    have h5' : (((wipe ρ [4, 5]).set 4 (some (D.int i))).set 5 (some (.str o)))[5]? = some (some (.str o)) := by
      rw [List.getElem?_set_self (by simp; omega)]
    have hin : inD (.str o) (.tup [.str person, .str kp]) (g ++ [.lst acc]) = some (decide (o ∈ [person, kp])) := in_strs_t (ss := [person, kp]) o
    simp [h2', h3', h4', h5', hin, kpE, LINE]
    by_cases hp : o = person <;> by_cases hk : o = kp <;> simp [hp, hk]
theorem droppers_ok (hl : os.length ≤ 1000) : f_droppers [HD os rs, .str room, .str person] g = match rs.find? (fun x => x.1 == room) with
    | none => .exc ⟨"UnknownRoom", some g.length⟩ (g ++ [.xd [("room", .str room)]])
    | some x => if devs (· == person) 0 os = [] then .exc ⟨"UnknownPerson", some (g.length + 1)⟩ (g ++ [.lst []] ++ [.xd [("person", .str person)]])
      else .ok (.ref (g.length + 1)) (g ++ [.lst (devs (· == person) 0 os)] ++ [.lst (devs (fun o => o == person || o == x.2) 0 os)]) := by
  unfold f_droppers fn b_droppers
  simp only [List.length_cons, List.length_nil, List.map_cons, List.map_nil, List.cons_append, List.nil_append, if_true]
  rw [show List.replicate (6 - 3) (none : Option D) = [none, none, none] from rfl]
  have e := keeper_ok (g := g) (os := os) (rs := rs) (room := room)
  cases hf : rs.find? (fun x => x.1 == room) with
  | none =>
    rw [hf] at e
    rw [seq_exc (asg_exc (by simp [e]; exact ⟨rfl, rfl⟩))]
  | some x =>
    rw [hf] at e
    rw [seq_next (asg_next (d := .str x.2) (g1 := g) (by simp [e]) rfl)]
    have e2 := devices_ok (g := g) (rs := rs) (person := person) hl
    have ev : ∀ ρ : Env, ρ[0]? = some (some (HD os rs)) → ρ[2]? = some (some (.str person)) → mCall f_devices_of (mCons (mVar 0) (mCons (mVar 2) (mNil))) ρ g = f_devices_of [HD os rs, .str person] g := by
      intro ρ h0 h2
      simp [h0, h2]
    by_cases hd : devs (· == person) 0 os = []
    · rw [if_pos hd] at e2
      dsimp only
      rw [if_pos hd]
      unfold q2_droppers
      rw [seq_exc (s := sExpr _) (by
        unfold sExpr onR
        rw [ev _ rfl rfl, e2])]
    · rw [if_neg hd] at e2
      dsimp only
      rw [if_neg hd]
      unfold q2_droppers
      rw [seq_next (s := sExpr _) (ρ1 := [some (HD os rs), some (.str room), some (.str person), some (.str x.2), none, none]) (g1 := g ++ [.lst (devs (· == person) 0 os)]) (by
        unfold sExpr onR
        rw [ev _ rfl rfl, e2]
        rfl)]
      unfold q1_droppers sRet onR
      rw [drop_lc (ρ := [some (HD os rs), some (.str room), some (.str person), some (.str x.2), none, none]) (g := g ++ [O.lst (devs (fun y => y == person) 0 os)]) (os := os) (rs := rs) (person := person) (kp := x.2) hl rfl rfl rfl rfl]
      simp
end
end K01
end

section
set_option autoImplicit false
set_option linter.all false
namespace K01
open Py
def dueDrop (os : List (List Char)) (rs : List (List Char × List Char)) (room person : List Char) : P := match rs.find? (fun x => x.1 == room) with
  | none => .tup [.str lit_4, .str room]
  | some x => if devs (· == person) 0 os = [] then .tup [.str lit_3, .str person] else .tup [.str toldL, .lst (devP (fun o => o == person || o == x.2) 0 os)]
section
variable {g : G} {os : List (List Char)} {rs : List (List Char × List Char)} {person room : List Char}
theorem law_droppers_ok (hl : os.length ≤ 1000) {Q : D → G → Prop} (q : ∀ v g', Only [] g g' → view g' 2 v = some (dueDrop os rs room person) → Q v g') : wp (f__law_droppers [HD os rs, .str room, .str person] g) Q := by
  unfold f__law_droppers b__law_droppers
  simp
  unfold lz; simp
  have e := droppers_ok (g := g ++ [.lst []]) (rs := rs) (room := room) (person := person) hl
  unfold dueDrop at q
  cases hf : rs.find? (fun x => x.1 == room) with
  | none =>
    rw [hf] at e q
    rw [try_ret (c := "UnknownRoom") (g0 := g ++ [.lst []]) (fs := [("room", .str room)]) (d := .tup [.str lit_4, .str room]) (asg_exc (by simp [-List.append_assoc, e])) (by simp)]
    · simp
      refine q _ _ ?_ (view2 view_str1)
      have := (Only.snoc [] g (.lst [])).trans (Only.snoc [] _ (.xd [("room", .str room)]))
      simpa using this
    · intro a b
      generalize g ++ [O.lst []] = g0
      simp [isE_at, fldE_at, LINE]
  | some x =>
    rw [hf] at e q
    dsimp only at e q
    by_cases hd : devs (· == person) 0 os = []
    · rw [if_pos hd] at e q
      have hlen : (g ++ [O.lst []]).length + 1 = (g ++ [O.lst []] ++ [O.lst []]).length := by simp
      rw [hlen] at e
      rw [try_ret (c := "UnknownPerson") (g0 := g ++ [.lst []] ++ [.lst []]) (fs := [("person", .str person)]) (d := .tup [.str lit_3, .str person]) (asg_exc (by simp [-List.append_assoc, e])) (by simp)]
      · simp
        refine q _ _ ?_ (view2 view_str1)
        have := ((Only.snoc [] g (.lst [])).trans (Only.snoc [] _ (.lst []))).trans (Only.snoc [] _ (.xd [("person", .str person)]))
        simpa using this
      · intro a b
        generalize g ++ [O.lst []] ++ [O.lst []] = g0
        simp [isE_at]
        unfold lz
        simp [isE_at, fldE_at, LINE]
    · rw [if_neg hd] at e q
      rw [try_next (asg_next (d := .ref ((g ++ [O.lst []]).length + 1)) (g1 := g ++ [.lst []] ++ [.lst (devs (· == person) 0 os)] ++ [.lst (devs (fun o => o == person || o == x.2) 0 os)]) (by simp [-List.append_assoc, e]) rfl)]
      simp
      unfold lz; simp [LINE]
      refine q _ _ ?_ ?_
      · have := ((Only.snoc [] g (.lst [])).trans (Only.snoc [] _ (.lst (devs (· == person) 0 os)))).trans (Only.snoc [] _ (.lst (devs (fun o => o == person || o == x.2) 0 os)))
        simpa using this
      · refine view2 (view_dev (k := 0) (f := fun o => o == person || o == x.2) ?_)
        rw [List.getElem?_append_right (by omega), show g.length + 1 + 1 - g.length = 2 by omega]
        rfl
theorem due_droppers_ok (hl : os.length ≤ 1000) {Q : D → G → Prop} (q : ∀ v g', Only [] g g' → view g' 2 v = some (dueDrop os rs room person) → Q v g') : wp (f__law_due_droppers [HD os rs, .str room, .str person] g) Q := by
  unfold f__law_due_droppers b__law_due_droppers
  simp
  refine due_keeper_ok ?_
  unfold lz
  unfold dueDrop at q
  unfold dueKeepD
  cases hf : rs.find? (fun x => x.1 == room) with
  | none =>
    rw [hf] at q
    have e : (lit_4 == toldL) = false := by decide
    unfold toldL at e
    simp [e]
    exact q _ g (Only.refl _ _) (view2 view_str1)
  | some x =>
    rw [hf] at q
    have hin : inD (.str person) (.tup (os.map .str)) g = some (decide (person ∈ os)) := in_strs_t person
    simp [toldL]
    unfold lz; simp [hd_0, hin]
    have hnil : devs (· == person) 0 os = [] ↔ person ∉ os := by
      rw [dev_nil]
      constructor
      · intro h hm; have := h person hm; simp at this
      · intro h o ho; simp; intro e; exact h (e ▸ ho)
    by_cases hp : person ∈ os
    · have hd : ¬ devs (· == person) 0 os = [] := fun z => hnil.mp z hp
      simp only [if_neg hd] at q
      simp [hp]
      unfold lz; simp [hd_0]
      unfold lz; simp
      refine ⟨small_int (by omega) (by omega), ?_⟩
      rw [show (itL (rng 0 os.length)).n = (rng 0 os.length).length from rfl]
      rw [lc_fil (ds := rng 0 os.length) (kpR (fun o => o == person || o == x.2) os) (fun i acc => rfl) (by simp [rng]; unfold LINE; omega)]
      · rw [rng_eq]
        have z := fil_rng (fun o => o == person || o == x.2) os os 0 0 rfl
        rw [z]
        simp [LINE]
        exact q _ _ (Only.snoc _ _ _) (view2 (view_dev (k := 0) (f := fun o => o == person || o == x.2) (by simp)))
      · intro i d acc hd
        obtain ⟨hi, rfl⟩ := rng_at hd
        refine ⟨_, rfl, ?_⟩
        simp [wipe, atI_nat, List.getElem?_eq_getElem hi, kpR]
        by_cases h1 : os[i] = person <;> by_cases h2 : os[i] = x.2 <;> simp [h1, h2]
    · have hd : devs (· == person) 0 os = [] := hnil.mpr hp
      simp only [if_pos hd] at q
      simp [hp, LINE]
      exact q _ g (Only.refl _ _) (view2 view_str1)
end
end K01
end

section
set_option autoImplicit false
set_option linter.all false
namespace K01
open Py
theorem allS_map : ∀ ss : List (List Char), allS (ss.map D.str) = some ss
  | [] => rfl
  | s :: r => by simp [allS, allS_map r]
section
variable {g : G} {os : List (List Char)} {rs : List (List Char × List Char)} {person room : List Char}
theorem people_ok (hl : os.length ≤ 1000) : f_people [HD os rs] g = .ok (.ref g.length) (g ++ [.lst ((sortS (ddS os)).map .str)]) := by
  have e : oSortSet (.tup (os.map .str)) g = some (newL ((sortS (ddS os)).map .str) g) := by
    simp [oSortSet, seqOf, allS_map]
    omega
  apply eq_ok
  unfold f_people b_people
  simp [hd_0, e, newL]
theorem room_names_ok (hl : rs.length ≤ 1000) : f_room_names [HD os rs] g = .ok (.ref g.length) (g ++ [.lst (rs.map fun r => .str r.1)]) := by
  apply eq_ok
  unfold f_room_names
  unfold b_room_names
  simp [HD]
  refine lc_by (fun i acc g' => g' = g ++ [.lst acc] ∧ acc = (rs.take i).map fun r => .str r.1) (fun _ _ _ _ => rfl) ?_ ?_ ?_ _ 0 [] _ rfl (Nat.zero_le _) ⟨rfl, by simp⟩
  · rintro i acc _ ⟨rfl, rfl⟩; simp
  · rintro i d acc _ hd ⟨rfl, rfl⟩
    rw [List.getElem?_map, Option.map_eq_some_iff] at hd
    obtain ⟨r, hr, rfl⟩ := hd
    simp [wipe]
    refine ⟨by unfold LINE; omega, ?_⟩
    rw [List.take_add_one, List.getElem?_map, hr]; rfl
  · rintro acc _ ⟨rfl, rfl⟩
    simp
end
end K01
end

section
set_option autoImplicit false
set_option linter.all false
namespace K01
open Py
section
variable {g : G} {os : List (List Char)} {rs : List (List Char × List Char)} {person room : List Char}
theorem due_dev_at {Q : D → G → Prop} (hl : os.length ≤ 1000) (hp : person ∈ os) (q : ∀ r g', Only [] g g' → g'[r]? = some (.lst (devs (· == person) 0 os)) → Q (.tup [.str toldL, .ref r]) g') : wp (f__law_due_devices [HD os rs, .str person] g) Q := by
  unfold f__law_due_devices b__law_due_devices
  simp [hd_0]
  refine ⟨small_int (by omega) (by omega), ?_⟩
  rw [show (itL (rng 0 os.length)).n = (rng 0 os.length).length from rfl]
  rw [lc_fil (ds := rng 0 os.length) (kpR (· == person) os) (fun i acc => rfl) (by simp [rng]; unfold LINE; omega)]
  · rw [rng_eq]
    have z := fil_rng (· == person) os os 0 0 rfl
    rw [z]
    simp
    unfold lz
    simp [len_ref (lstOf_lst (get_snoc g (.lst (devs (· == person) 0 os))))]
    have hd : ¬ devs (· == person) 0 os = [] := by
      rw [dev_nil]
      intro h
      have := h person hp
      simp at this
    simp [hd]
    unfold lz; simp [LINE]
    exact q g.length _ (Only.snoc _ _ _) (get_snoc _ _)
  · intro i d acc hd
    obtain ⟨hi, rfl⟩ := rng_at hd
    refine ⟨_, rfl, ?_⟩
    simp [wipe, hd_0, atI_nat, List.getElem?_eq_getElem hi, kpR]
    by_cases hp : os[i] = person <;> simp [hp]
/-- the four lists that the program tells -/
structure Told (g0 : G) (os : List (List Char)) (rs : List (List Char × List Char)) (x : List Char × List Char) (person : List Char) (v : D) (g : G) : Prop where
  only : Only [] g0 g
  ex : ∃ t a b c d : Nat, v = .ref t ∧ g[t]? = some (.lst [.ref a, .ref b, .ref c, .ref d]) ∧ g[a]? = some (.lst ((sortS (ddS os)).map .str)) ∧ g[b]? = some (.lst ((rs.map (·.1)).map .str)) ∧
    g[c]? = some (.lst (devs (· == person) 0 os)) ∧ g[d]? = some (.lst (devs (fun o => o == person || o == x.2) 0 os)) ∧ g0.length ≤ a ∧ a < b ∧ b < c ∧ c < d ∧ d < t
theorem told_ok {Q : D → G → Prop} {x : List Char × List Char} (hl : os.length ≤ 1000) (hr : rs.length ≤ 1000) (hp : person ∈ os) (hx : rs.find? (fun x => x.1 == room) = some x) (q : ∀ v g', Told g os rs x person v g' → Q v g') :
    wp (f__law_told_lists [HD os rs, .str room, .str person] g) Q := by
  have hd : ¬ devs (· == person) 0 os = [] := by
    rw [dev_nil]
    intro h
    have := h person hp
    simp at this
  have e1 := people_ok (g := g) (rs := rs) hl
  have e2 := room_names_ok (g := g ++ [.lst ((sortS (ddS os)).map .str)]) (os := os) hr
  have e3 := devices_ok (g := g ++ [.lst ((sortS (ddS os)).map .str)] ++ [.lst (rs.map fun r => .str r.1)]) (rs := rs) (person := person) hl
  rw [if_neg hd] at e3
  have e4 := droppers_ok (g := g ++ [.lst ((sortS (ddS os)).map .str)] ++ [.lst (rs.map fun r => .str r.1)] ++ [.lst (devs (· == person) 0 os)]) (rs := rs) (room := room) (person := person) hl
  rw [hx] at e4
  dsimp only at e4
  rw [if_neg hd] at e4
  unfold f__law_told_lists b__law_told_lists
  simp only [List.append_assoc, List.cons_append, List.nil_append] at e2 e3 e4
  simp [e1, e2, e3, e4, LINE]
  refine q _ _ ⟨?_, _, g.length, g.length + 1, g.length + 2, g.length + 4, rfl, ?_, ?_, ?_, ?_, ?_, Nat.le_refl _, by omega, by omega, by omega, ?_⟩
  · exact ⟨by simp, fun i h _ => List.getElem?_append_left h⟩
  all_goals simp
end
end K01
end

section
set_option autoImplicit false
set_option linter.all false
namespace K01
open Py
section
variable {g : G} {os : List (List Char)} {rs : List (List Char × List Char)} {person room : List Char}
def toldP (os : List (List Char)) (rs : List (List Char × List Char)) (x : List Char × List Char) (person : List Char) : P :=
  .lst [.lst ((sortS (ddS os)).map .str), .lst ((rs.map (·.1)).map .str), .lst (devP (· == person) 0 os), .lst (devP (fun o => o == person || o == x.2) 0 os)]
theorem view_strs {r : Nat} {ss : List (List Char)} (h : g[r]? = some (.lst (ss.map .str))) : view g 1 (.ref r) = some (.lst (ss.map .str)) := by
  simp only [view]
  rw [lstOf_lst h]
  dsimp only
  rw [views_strs]
  rfl
theorem view_four {t a b c d : Nat} {x : List Char × List Char} (ht : g[t]? = some (.lst [.ref a, .ref b, .ref c, .ref d])) (ha : g[a]? = some (.lst ((sortS (ddS os)).map .str))) (hb : g[b]? = some (.lst ((rs.map (·.1)).map .str)))
    (hc : g[c]? = some (.lst (devs (· == person) 0 os))) (hd : g[d]? = some (.lst (devs (fun o => o == person || o == x.2) 0 os))) : view g 2 (.ref t) = some (toldP os rs x person) := by
  simp only [view]
  rw [lstOf_lst ht]
  dsimp only
  rw [viewL_cons.mpr ⟨_, _, rfl, view_strs ha, viewL_cons.mpr ⟨_, _, rfl, view_strs hb, viewL_cons.mpr ⟨_, _, rfl, view_dev hc, viewL_cons.mpr ⟨_, [], rfl, view_dev hd, rfl⟩⟩⟩⟩]
  rfl
theorem Told.view {g0 : G} {x : List Char × List Char} {v : D} (h : Told g0 os rs x person v g) : Py.view g 2 v = some (toldP os rs x person) := by
  obtain ⟨t, a, b, c, d, rfl, ht, ha, hb, hc, hd, _⟩ := h.ex
  exact view_four ht ha hb hc hd
theorem devP_len (f : List Char → Bool) : ∀ (os : List (List Char)) (k : Int), (devP f k os).length ≤ os.length
  | [], _ => by simp [devP]
  | o :: os, k => by
    have ih := devP_len f os (k + 1)
    unfold devP
    split
    · simp; exact ih
    · simp; omega
theorem sms_of {ps : List P} (h : ∀ p ∈ ps, sm p = true) : sms ps = true := by
  induction ps with
  | nil => rfl
  | cons p ps ih => simp [sms, h p (by simp), ih fun q hq => h q (by simp [hq])]
theorem devP_sm (f : List Char → Bool) : ∀ (os : List (List Char)) (k : Int), sms (devP f k os) = true
  | [], _ => rfl
  | o :: os, k => by
    have ih := devP_sm f os (k + 1)
    unfold devP
    split
    · simp [sms, sm, ih]
    · exact ih
theorem strs_sm {ss : List (List Char)} (h : ∀ s ∈ ss, s.length ≤ 100000) : sms (ss.map .str) = true := sms_of fun p hp => by
  obtain ⟨s, hs, rfl⟩ := List.mem_map.mp hp
  simp [sm, h s hs]
theorem toldP_sm {x : List Char × List Char} (hl : os.length ≤ 1000) (hr : rs.length ≤ 1000) (hs : ∀ s ∈ os, s.length ≤ 100000) (hn : ∀ x ∈ rs, x.1.length ≤ 100000) (hpl : (sortS (ddS os)).length ≤ 1000) : sm (toldP os rs x person) = true := by
  have h1 := devP_len (· == person) os 0
  have h2 := devP_len (fun o => o == person || o == x.2) os 0
  have s1 := devP_sm (· == person) os 0
  have s2 := devP_sm (fun o => o == person || o == x.2) os 0
  have s3 : sms ((sortS (ddS os)).map .str) = true := strs_sm fun s h => hs s (dd_mem.mp ((sortS_perm _).mem_iff.mp h))
  have s4 : sms ((rs.map (·.1)).map .str) = true := strs_sm fun s h => by
    obtain ⟨y, hy, rfl⟩ := List.mem_map.mp h
    exact hn y hy
  unfold toldP
  simp only [sm, sms, Bool.and_eq_true, decide_eq_true_eq, s1, s2, s3, s4, List.length_cons, List.length_nil, List.length_map]
  refine ⟨by omega, ⟨by omega, trivial⟩, ⟨by omega, trivial⟩, ⟨by omega, trivial⟩, ⟨by omega, trivial⟩, trivial⟩
end
end K01
end

section
set_option autoImplicit false
set_option linter.all false
namespace K01
open Py
theorem devs_int {f : List Char → Bool} {d : D} : ∀ {os : List (List Char)} {k : Int}, d ∈ devs f k os → ∃ i, d = .int i
  | [], _, h => by simp [devs] at h
  | o :: os, k, h => by
    unfold devs at h
    split at h
    · rcases List.mem_cons.mp h with e | h
      · exact ⟨_, e⟩
      · exact devs_int h
    · exact devs_int h
section
variable {g : G} {os : List (List Char)} {rs : List (List Char × List Char)} {person room : List Char}
theorem last_idx {r : Nat} {ss : List (List Char)} {s : List Char} (h : g[r]? = some (.lst (ss.map .str))) (hs : ss[ss.length - 1]? = some s) : oIdx (.ref r) (.int ((ss.length : Int) - 1)) g = some (.str s) := by
  have hl := (List.getElem?_eq_some_iff.mp hs).1
  rw [idx_ref _ (lstOf_lst h), atI_int _ (by omega)]
  have : ((ss.length : Int) - 1).toNat = ss.length - 1 := by omega
  rw [this, List.getElem?_map, hs]
  rfl
theorem due_drop_at {Q : D → G → Prop} {x : List Char × List Char} (hl : os.length ≤ 1000) (hp : person ∈ os) (hx : rs.find? (fun x => x.1 == room) = some x) (q : ∀ r g', Only [] g g' → g'[r]? = some (.lst (devs (fun o => o == person || o == x.2) 0 os)) → Q (.tup [.str toldL, .ref r]) g') : wp (f__law_due_droppers [HD os rs, .str room, .str person] g) Q := by
  have hd : ¬ devs (· == person) 0 os = [] := by
    rw [dev_nil]
    intro h
    have := h person hp
    simp at this
  unfold f__law_due_droppers b__law_due_droppers
  simp
  refine due_keeper_ok ?_
  unfold lz
  unfold dueKeepD
  rw [hx]
  have hin : inD (.str person) (.tup (os.map .str)) g = some (decide (person ∈ os)) := in_strs_t person
  simp [toldL]
  unfold lz; simp [hd_0, hin, hp]
  unfold lz; simp [hd_0]
  unfold lz; simp
  refine ⟨small_int (by omega) (by omega), ?_⟩
  rw [show (itL (rng 0 os.length)).n = (rng 0 os.length).length from rfl]
  rw [lc_fil (ds := rng 0 os.length) (kpR (fun o => o == person || o == x.2) os) (fun i acc => rfl) (by simp [rng]; unfold LINE; omega)]
  · rw [rng_eq]
    have z := fil_rng (fun o => o == person || o == x.2) os os 0 0 rfl
    rw [z]
    simp [LINE]
    exact q g.length _ (Only.snoc _ _ _) (get_snoc _ _)
  · intro i d acc hd
    obtain ⟨hi, rfl⟩ := rng_at hd
    refine ⟨_, rfl, ?_⟩
    simp [wipe, atI_nat, List.getElem?_eq_getElem hi, kpR]
    by_cases h1 : os[i] = person <;> by_cases h2 : os[i] = x.2 <;> simp [h1, h2]
theorem lists_ok {pa na : Nat} {x : List Char × List Char} {Q : D → G → Prop} (ha : g[pa]? = some (.lst ((sortS (ddS os)).map .str))) (hn : g[na]? = some (.lst ((rs.map (·.1)).map .str))) (hl : os.length ≤ 1000) (hr : rs.length ≤ 1000)
    (hs : ∀ s ∈ os, s.length ≤ 100000) (hns : ∀ x ∈ rs, x.1.length ≤ 100000) (hpl : (sortS (ddS os)).length ≤ 1000) (hp : (sortS (ddS os))[(sortS (ddS os)).length - 1]? = some person) (hroom : (rs.map (·.1))[(rs.map (·.1)).length - 1]? = some room)
    (hx : rs.find? (fun x => x.1 == room) = some x) (q : ∀ g', Only [] g g' → Q (.bl true) g') : wp (f__law_lists [HD os rs, .ref pa, .ref na] g) Q := by
  have hpo : person ∈ os := dd_mem.mp ((sortS_perm _).mem_iff.mp (List.mem_of_getElem? hp))
  have hsm := toldP_sm (person := person) (x := x) hl hr hs hns hpl
  have l1 := last_idx ha hp
  have l2 := last_idx hn hroom
  unfold f__law_lists b__law_lists
  have n1 := len_ref (lstOf_lst hn)
  have n2 := len_ref (lstOf_lst ha)
  simp only [List.length_map] at n1 n2 l1 l2
  simp [n1, l2]
  unfold lz; simp [n2, l1]
  unfold lz; simp [list_ref (lstOf_lst ha), newL, LINE]
  have hn' := at_snoc (o' := .lst ((sortS (ddS os)).map .str)) hn
  rw [list_ref (lstOf_lst hn')]
  simp [newL]
  obtain ⟨g1, hg1⟩ : ∃ g1, g1 = g ++ [O.lst ((sortS (ddS os)).map .str), O.lst ((rs.map (·.1)).map .str), O.lst [.ref g.length, .ref (g.length + 1)]] := ⟨_, rfl⟩
  have o1 : Only [] g g1 := by rw [hg1]; exact ⟨by simp, fun i h _ => List.getElem?_append_left h⟩
  have a1 : g1[g.length]? = some (.lst ((sortS (ddS os)).map .str)) := by rw [hg1]; simp
  have b1 : g1[g.length + 1]? = some (.lst ((rs.map (·.1)).map .str)) := by rw [hg1]; simp
  have d1 : g1[g.length + 2]? = some (.lst [.ref g.length, .ref (g.length + 1)]) := by rw [hg1]; simp
  simp only [List.map_map] at hg1
  first | rw [← hg1] | (simp only [List.map_map]; rw [← hg1])
  unfold lz; simp [lstOf_lst d1]
  refine due_dev_at hl hpo fun r2 g2 o2 c2 => ?_
  have d2 := o2.get d1 (by simp)
  simp
  rw [append_lst d2]
  refine ⟨by simp [LINE], ?_⟩
  have a2 := o2.get a1 (by simp)
  have b2 := o2.get b1 (by simp)
  obtain ⟨g3, hg3⟩ : ∃ g3, g3 = g2.set (g.length + 2) (O.lst [.ref g.length, .ref (g.length + 1), .ref r2]) := ⟨_, rfl⟩
  have hr2 : r2 ≠ g.length + 2 := by
    rintro rfl
    rw [d2] at c2
    simp only [O.lst.injEq, Option.some.injEq] at c2
    obtain ⟨i, hi⟩ := devs_int (d := .ref g.length) (f := (· == person)) (os := os) (k := 0) (by rw [← c2]; simp)
    cases hi
  have o3 : Only [] g g3 := by rw [hg3]; exact (o1.trans o2).then (Only.set (ws := [g.length + 2]) (.inl (by simp)) _) (by simp)
  have a3 : g3[g.length]? = some (.lst ((sortS (ddS os)).map .str)) := by rw [hg3]; exact at_ne a2 (by omega)
  have b3 : g3[g.length + 1]? = some (.lst ((rs.map (·.1)).map .str)) := by rw [hg3]; exact at_ne b2 (by omega)
  have c3 : g3[r2]? = some (.lst (devs (· == person) 0 os)) := by rw [hg3]; exact at_ne c2 (by omega)
  have d3 : g3[g.length + 2]? = some (.lst [.ref g.length, .ref (g.length + 1), .ref r2]) := by rw [hg3]; exact at_set d2
  simp only [List.cons_append, List.nil_append]
  rw [← hg3]
  clear hg3 hg1 a2 b2 c2 d2 a1 b1 d1
  unfold lz; simp [lstOf_lst d3]
  refine due_drop_at hl hpo hx fun r4 g4 o4 e4 => ?_
  have d4 := o4.get d3 (by simp)
  have a4 := o4.get a3 (by simp)
  have b4 := o4.get b3 (by simp)
  have c4 := o4.get c3 (by simp)
  simp
  rw [append_lst d4]
  refine ⟨by simp [LINE], ?_⟩
  have hr4 : r4 ≠ g.length + 2 := by
    rintro rfl
    rw [d4] at e4
    simp only [O.lst.injEq, Option.some.injEq] at e4
    obtain ⟨i, hi⟩ := devs_int (d := .ref g.length) (f := fun o => o == person || o == x.2) (os := os) (k := 0) (by rw [← e4]; simp)
    cases hi
  obtain ⟨g5, hg5⟩ : ∃ g5, g5 = g4.set (g.length + 2) (O.lst [.ref g.length, .ref (g.length + 1), .ref r2, .ref r4]) := ⟨_, rfl⟩
  have o5 : Only [] g g5 := by rw [hg5]; exact (o3.trans o4).then (Only.set (ws := [g.length + 2]) (.inl (by simp)) _) (by simp)
  have a5 : g5[g.length]? = some (.lst ((sortS (ddS os)).map .str)) := by rw [hg5]; exact at_ne a4 (by omega)
  have b5 : g5[g.length + 1]? = some (.lst ((rs.map (·.1)).map .str)) := by rw [hg5]; exact at_ne b4 (by omega)
  have c5 : g5[r2]? = some (.lst (devs (· == person) 0 os)) := by rw [hg5]; exact at_ne c4 (by omega)
  have e5 : g5[r4]? = some (.lst (devs (fun o => o == person || o == x.2) 0 os)) := by rw [hg5]; exact at_ne e4 (by omega)
  have d5 : g5[g.length + 2]? = some (.lst [.ref g.length, .ref (g.length + 1), .ref r2, .ref r4]) := by rw [hg5]; exact at_set d4
  have v5 := view_four d5 a5 b5 c5 e5
  simp only [List.cons_append, List.nil_append]
  rw [← hg5]
  clear hg5 a4 b4 c4 d4 e4 a3 b3 c3 d3 a5 b5 c5 d5 e5
  unfold lz; simp
  refine told_ok hl hr hpo hx fun t g6 T => ?_
  have v6 := T.only.ext.view v5
  have w6 := T.view
  unfold lz; simp
  rw [same_true 8 w6 v6 (by omega) hsm]
  simp
  obtain ⟨t', a, b, c, d, rfl, ht, h1, h2, h3, h4, q1, q2, q3, q4, q5⟩ := T.ex
  unfold lz; simp
  refine ⟨small_int (by omega) (by omega), ?_⟩
  refine for_itL (ds := rng 0 4) (fun i ρ g' => Only [] g5 g' ∧ (∃ y, ρ = [some (HD os rs), some (.ref pa), some (.ref na), some (.str room), some (.str person), some (.ref (g.length + 2)), some (.ref t'), y]) ∧ g'[t']? = some (.lst [.ref a, .ref b, .ref c, .ref d]) ∧
    ∀ r ∈ [a, b, c, d], ∃ xs, g'[r]? = some (.lst xs) ∧ xs.length ≤ 10000 + i) ⟨T.only, ⟨none, rfl⟩, ht, ?_⟩ ?_ ?_
  · intro r hr0
    have dl : ∀ f : List Char → Bool, (devs f 0 os).length ≤ os.length := fun f => by
      have z1 := viewL_len (dev_view f g 0 os 0)
      have z2 := devP_len f os 0
      omega
    simp only [List.mem_cons, List.not_mem_nil, or_false] at hr0
    rcases hr0 with rfl | rfl | rfl | rfl
    · exact ⟨_, h1, by simp; omega⟩
    · exact ⟨_, h2, by simp; omega⟩
    · exact ⟨_, h3, by have := dl (· == person); omega⟩
    · exact ⟨_, h4, by have := dl (fun o => o == person || o == x.2); omega⟩
  · rintro i dd ρ g7 hd' ⟨o7, ⟨y, rfl⟩, t7, f7⟩
    obtain ⟨hi, rfl⟩ := rng_at hd'
    refine ⟨_, rfl, ?_⟩
    obtain ⟨r, hr7, er⟩ : ∃ r ∈ [a, b, c, d], oIdx (.ref t') (.int (i : Nat)) g7 = some (.ref r) := by
      rw [idx_ref _ (lstOf_lst t7), atI_nat]
      match i, hi with
      | 0, _ => exact ⟨a, by simp, rfl⟩
      | 1, _ => exact ⟨b, by simp, rfl⟩
      | 2, _ => exact ⟨c, by simp, rfl⟩
      | 3, _ => exact ⟨d, by simp, rfl⟩
    obtain ⟨xs, hxs, hlen⟩ := f7 r hr7
    simp [er, lstOf_lst hxs]
    rw [append_lst hxs]
    have hrt : r ≠ t' := by simp at hr7; omega
    have hrg : g5.length ≤ r := by simp at hr7; omega
    refine ⟨by unfold LINE; omega, o7.then (Only.set (ws := [r]) (.inl (by simp)) _) (by simp; exact hrg), at_ne t7 hrt, ?_⟩
    have key : ∀ r' ∈ [a, b, c, d], ∃ ys, (g7.set r (O.lst (xs ++ [D.str ['x']])))[r']? = some (O.lst ys) ∧ ys.length ≤ 10000 + (i + 1) := by
      intro r' hr'
      by_cases e : r' = r
      · subst e
        exact ⟨_, at_set hxs, by simp; omega⟩
      · obtain ⟨ys, hys, hyl⟩ := f7 r' hr'
        exact ⟨ys, at_ne hys (Ne.symm e), by omega⟩
    exact ⟨key a (by simp), key b (by simp), key c (by simp), key d (by simp)⟩
  · rintro ρ g7 ⟨o7, ⟨y, rfl⟩, t7, f7⟩
    unfold lz; simp
    refine told_ok hl hr hpo hx fun t g8 T8 => ?_
    have v8 := T8.only.ext.view (o7.ext.view v5)
    rw [same_true 8 T8.view v8 (by omega) hsm]
    simp
    exact q _ ((o5.trans o7).trans T8.only)
end
end K01
end

section
set_option autoImplicit false
set_option linter.all false
namespace K01
open Py
section
variable {g : G}
theorem lit1_len : lit_1.length ≤ 60 ∧ 1 ≤ lit_1.length := by decide
theorem sign_ok {r : Nat} {w : List Char} (h : Src g r) (w0 : 1 ≤ w.length) (w1 : w.length ≤ 1000) {Q : D → G → Prop} (q : ∀ (s : List Char) (g' : G), s.length = w.length → Only [r] g g' → Src g' r → Q (.str s) g') : wp (f__law_sign [.ref r, .str w] g) Q := by
  have hw : w.length ≤ LINE := by unfold LINE; omega
  unfold f__law_sign b__law_sign
  simp
  unfold lz; simp [hw]
  refine take_ok h (by omega) (by omega) fun d g1 d0 d1 o1 s1 => ?_
  unfold lz; simp [hw]
  refine take_ok s1 (by have := lit1_len; omega) (by have := lit1_len; omega) fun e g2 e0 e1 o2 s2 => ?_
  obtain ⟨c, hc⟩ := idx_str_mem (g := g2) (cs := lit_1) (by have := lit1_len; unfold LINE; omega) e0 e1
  rw [hc]
  have hl : (cut w none (some d)).length + 1 + (cut w (some (d + 1)) none).length = w.length := by
    rw [cut_hd w d0, cut_tl w (by omega), List.length_take, List.length_drop]
    omega
  have hl' := lit1_len
  simp
  refine ⟨by unfold LINE at *; omega, by unfold LINE at *; omega, q _ g2 (by simp; omega) (o1.trans o2) s2⟩
end
end K01
end

section
set_option autoImplicit false
set_option linter.all false
namespace K01
open Py
section
variable {r n m k : Nat} {g g' : G} {v w : D} {p : P}
theorem odd_ok (h : Src g r) {Q : D → G → Prop} (q : ∀ (v : D) (g' : G), V r g' 2 61 v → Only [r] g g' → Src g' r → Q v g') : wp (f__law_odd [.ref r] g) Q := by
  unfold f__law_odd b__law_odd
  have hr := h.lt
  simp [LINE]
  unfold lz; simp [LINE]
  generalize hA : [D.non, D.bl true, D.bl false, D.int 0, D.int 1, D.int (-3), D.str [], D.str lit_2, D.str ['A', 'n', 'n'], D.str ['a', ' ', 'b'], D.str ['a', '1'], D.tup [], D.ref (List.length g), D.tup [D.str ['a']], D.ref (List.length g + 1), D.tup [D.str ['a'], D.str []]] = A
  have o : Only [r] g (g ++ [.lst [], .lst [.str ['a']], .lst A]) := ⟨by simp, fun i hi _ => List.getElem?_append_left hi⟩
  have e0 : (g ++ [.lst [], .lst [.str ['a']], .lst A])[g.length]? = some (.lst []) := by simp
  have e1 : (g ++ [.lst [], .lst [.str ['a']], .lst A])[g.length + 1]? = some (.lst [.str ['a']]) := by simp
  have e2 : (g ++ [.lst [], .lst [.str ['a']], .lst A])[g.length + 2]? = some (.lst A) := by simp
  have s : Src (g ++ [.lst [], .lst [.str ['a']], .lst A]) r := by
    obtain ⟨c, m, e, z⟩ := h
    exact ⟨c, m, by rw [List.getElem?_append_left hr]; exact e, z⟩
  generalize g ++ [.lst [], .lst [.str ['a']], .lst A] = G at o e0 e1 e2 s ⊢
  have hAl : A.length = 16 := by rw [← hA]; rfl
  have V0 : V r G 1 61 (.ref g.length) := V_lst (ds := []) (by simp) (by simp) (by omega) (lstOf_lst e0)
  have V1 : V r G 1 61 (.ref (g.length + 1)) := V_lst (ds := [.str ['a']]) (by intro d hd; simp at hd; subst hd; exact V_str (by simp)) (by simp) (by omega) (lstOf_lst e1)
  have hV : ∀ d ∈ A, V r G 2 61 d := by
    intro d hd
    rw [← hA] at hd
    simp only [List.mem_cons, List.not_mem_nil, or_false] at hd
    rcases hd with rfl | rfl | rfl | rfl | rfl | rfl | rfl | rfl | rfl | rfl | rfl | rfl | rfl | rfl | rfl | rfl
    · exact V_non
    · exact V_bl _
    · exact V_bl _
    · exact V_int _
    · exact V_int _
    · exact V_int _
    · exact V_str (by simp)
    · exact V_str (by simp [lit_2])
    · exact V_str (by simp)
    · exact V_str (by simp)
    · exact V_str (by simp)
    · exact V_tup (by simp) (by simp)
    · exact V0.mono (by omega) (by omega)
    · exact V_tup (by intro d hd; simp at hd; subst hd; exact V_str (by simp)) (by simp)
    · exact V1.mono (by omega) (by omega)
    · exact V_tup (by intro d hd; simp at hd; rcases hd with rfl | rfl <;> exact V_str (by simp)) (by simp)
  refine take_ok s (by omega) (by omega) fun d g2 d0 d1 o2 s2 => ?_
  have e : lstOf (.ref (g.length + 2)) g2 = some (A.map id) := by rw [List.map_id]; exact o2.lst (lstOf_lst e2) (by have := s.lt; simp; omega)
  obtain ⟨z, hz, ez⟩ := idx_ref_mem e d0 (by simp [hAl]; exact d1)
  rw [ez]
  exact q z g2 ((hV z hz).only o2) (o.trans o2) s2
end
end K01
end

section
set_option autoImplicit false
set_option linter.all false
namespace K01
open Py
section
variable {r n m k : Nat} {g g' : G} {v w : D} {p : P} {os : List (List Char)}
theorem V_strs {n m : Nat} (hw : ∀ s ∈ os, s.length ≤ m) : ∀ d ∈ os.map D.str, V r g n m d := fun d hd => by
  obtain ⟨s, hs, rfl⟩ := List.mem_map.mp hd
  exact V_str (hw s hs)
theorem spoil_owners_ok (h : Src g r) (h0 : 1 ≤ os.length) (h8 : os.length ≤ 8) (hw : Words os) {Q : D → G → Prop} (q : ∀ (v : D) (g' : G), V r g' 3 100 v → Only [r] g g' → Src g' r → Q v g') : wp (f__law_spoil_owners [.ref r, .tup (os.map .str)] g) Q := by
  unfold f__law_spoil_owners b__law_spoil_owners
  simp
  refine take_ok h (by omega) (by omega) fun t g1 t0 t1 o1 s1 => ?_
  unfold lz; simp
  refine take_ok s1 (by omega) (by omega) fun d g2 d0 d1 o2 s2 => ?_
  have o2 := o1.trans o2
  have hws : ∀ s ∈ os, s.length ≤ 61 := fun s hs => by have := (hw s hs).2; omega
  have hV : ∀ d ∈ os.map D.str, V r g2 2 61 d := V_strs hws
  unfold lz; simp
  by_cases c0 : t = 0
  · simp [c0, newL]
    refine q _ _ ?_ (o2.trans (Only.snoc _ _ _)) (s2.snoc _)
    exact V_lst (fun d hd => ((V_strs (n := 2) (m := 100) (fun s hs => by have := hws s hs; omega)) d hd)) (by simp; omega) (by have := s2.lt; omega) (lstOf_lst (get_snoc _ _))
  simp [c0]
  unfold lz; simp
  by_cases c1 : t = 1
  · simp [c1]
    exact odd_ok s2 fun v g3 hv o3 s3 => q v g3 (hv.mono (by omega) (by omega)) (o2.trans o3) s3
  simp [c1]
  have hrep : ∀ (c : Nat) (hi : Option Int), ∀ d ∈ cut (List.replicate c (os.map D.str)).flatten none hi, V r g2 2 100 d := fun c hi d hd => by
    have h1 : d ∈ (List.replicate c (os.map D.str)).flatten := List.mem_of_mem_drop (List.mem_of_mem_take hd)
    obtain ⟨l, hl, hd'⟩ := List.mem_flatten.mp h1
    rw [(List.mem_replicate.mp hl).2] at hd'
    exact (hV d hd').mono (by omega) (by omega)
  have hlen : ∀ (c : Nat) (hi : Option Int), c ≤ 9 → (cut (List.replicate c (os.map D.str)).flatten none hi).length ≤ 100 := fun c hi hc => by
    unfold cut
    rw [List.length_take, List.length_drop, List.length_flatten]
    simp
    have : c * os.length ≤ 9 * 8 := Nat.mul_le_mul hc h8
    omega
  unfold lz; simp
  by_cases c2 : t = 2
  · simp [c2]
    refine ⟨⟨by omega, by intro z; rw [z] at h0; simp at h0⟩, q _ _ (by have z := V_tup (hrep 9 (some 9)) (hlen 9 (some 9) (by omega)); simpa using z) o2 s2⟩
  simp [c2]
  unfold lz; simp
  by_cases c3 : t = 3
  · simp [c3]
    refine ⟨⟨by omega, by intro z; rw [z] at h0; simp at h0⟩, q _ _ (by have z := V_tup (hrep 8 (some 8)) (hlen 8 (some 8) (by omega)); simpa using z) o2 s2⟩
  simp [c3]
  unfold lz; simp
  by_cases c4 : t = 4
  · simp [c4]
    refine odd_ok s2 fun v g3 hv o3 s3 => ?_
    refine put_V d0 (fun x hx => (hV x hx).only o3) (by simp; omega) (by omega) (hv.mono (by omega) (by omega)) fun ds' z => ?_
    exact q _ _ (z.mono (by omega) (by omega)) (o2.trans o3) s3
  simp [c4]
  unfold lz; simp
  obtain ⟨s, hs, es⟩ := idx_tup_mem (f := D.str) (xs := os) (g := g2) d0 d1
  simp only [idx_tup] at es
  rw [es]
  simp
  refine sign_ok s2 (hw s hs).1 (by have := (hw s hs).2; omega) fun s' g3 hl3 o3 s3 => ?_
  refine put_V d0 (fun x hx => (hV x hx).only o3) (by simp; omega) (by omega) (V_str (by have := (hw s hs).2; omega)) fun ds' z => ?_
  exact q _ _ (z.mono (by omega) (by omega)) (o2.trans o3) s3
end
end K01
end

section
set_option autoImplicit false
set_option linter.all false
namespace K01
open Py
section
variable {r n m k : Nat} {g g' : G} {v w : D} {p : P} {os : List (List Char)} {rs : List (List Char × List Char)}
def RD (rs : List (List Char × List Char)) : List D := rs.map fun x => .tup [.str x.1, .str x.2]
theorem V_rooms (hr : ∀ x ∈ rs, x.1.length ≤ 61 ∧ x.2.length ≤ 61) : ∀ d ∈ RD rs, V r g 2 61 d := fun d hd => by
  obtain ⟨x, hx, rfl⟩ := List.mem_map.mp hd
  exact V_tup (by intro d hd; simp at hd; rcases hd with rfl | rfl; exact V_str (hr x hx).1; exact V_str (hr x hx).2) (by simp)
theorem more_ok {many : Int} (h0 : rs.length ≤ 6) (hm : many ≤ 7) (hm0 : 0 ≤ many) (hr : ∀ x ∈ rs, x.1.length ≤ 61 ∧ x.2.length ≤ 61) {Q : D → G → Prop} (q : ∀ v, V r g 3 100 v → Q v g) : wp (f__law_more_rooms [.tup (RD rs), .int many] g) Q := by
  unfold f__law_more_rooms b__law_more_rooms
  simp
  unfold lz; simp
  have hlen : (RD rs).length = rs.length := by simp [RD]
  refine ⟨small_int (by omega) (by omega), ?_⟩
  refine for_itL (ds := rng 0 (many.toNat - (RD rs).length)) (fun i ρ g' => g' = g ∧ ∃ (ds : List D) (y : Option D), ρ = [some (.tup (RD rs)), some (.int many), some (.tup ds), y] ∧ ds.length ≤ 6 + i ∧ ∀ d ∈ ds, V r g 2 61 d) ⟨rfl, RD rs, none, rfl, by omega, V_rooms hr⟩ ?_ ?_
  · rintro i d ρ g2 hd ⟨eg, ds, y, rfl, hl, hv⟩
    obtain ⟨hi, rfl⟩ := rng_at hd
    refine ⟨_, rfl, ?_⟩
    have hi8 : i < 8 := by omega
    obtain ⟨c, hc⟩ := idx_str_mem (g := g2) (cs := ['a', 'b', 'c', 'd', 'e', 'f', 'g', 'h']) (i := (i : Int)) (by decide) (by omega) (by simp; omega)
    have hc : Option.map (fun c => D.str [c]) (atI ['a', 'b', 'c', 'd', 'e', 'f', 'g', 'h'] (i : Int)) = some (D.str [c]) := by simp at hc; simpa using hc.2
    subst eg
    simp [hc, LINE]
    refine ⟨by omega, by omega, fun x hx => ?_⟩
    rcases hx with hx | rfl
    · exact hv x hx
    · exact V_tup (by intro d hd; simp at hd; rcases hd with rfl | rfl <;> exact V_str (by simp)) (by simp)
  · rintro ρ _ ⟨rfl, ds, y, rfl, hl, hv⟩
    unfold lz; simp
    refine q _ (V_tup (fun d hd => (hv d hd).mono (by omega) (by omega)) ?_)
    simp [rng] at hl
    omega
end
end K01
end

section
set_option autoImplicit false
set_option linter.all false
namespace K01
open Py
section
variable {r n m k : Nat} {g g' : G} {v w : D} {p : P} {os : List (List Char)} {rs : List (List Char × List Char)}
theorem rd_at {i : Int} (h0 : 0 ≤ i) (h1 : i < rs.length) : ∃ x ∈ rs, atI (RD rs) i = some (.tup [.str x.1, .str x.2]) := by
  obtain ⟨c, hc, e⟩ := idx_tup_mem (g := []) (f := fun x : List Char × List Char => D.tup [.str x.1, .str x.2]) (xs := rs) h0 h1
  exact ⟨c, hc, by simpa [RD] using e⟩
theorem spoil_rooms_ok (h : Src g r) (o0 : 1 ≤ os.length) (o8 : os.length ≤ 8) (how : Words os) (h0 : 1 ≤ rs.length) (h6 : rs.length ≤ 6) (hw : Words (rs.map (·.1))) (hk : ∀ x ∈ rs, x.2.length ≤ 8) {Q : D → G → Prop} (q : ∀ (v : D) (g' : G), V r g' 4 100 v → Only [r] g g' → Src g' r → Q v g') : wp (f__law_spoil_rooms [.ref r, .tup (os.map .str), .tup (RD rs)] g) Q := by
  have hlen : (RD rs).length = rs.length := by simp [RD]
  have hn : ∀ x ∈ rs, 1 ≤ x.1.length ∧ x.1.length ≤ 8 := fun x hx => hw x.1 (List.mem_map.mpr ⟨x, hx, rfl⟩)
  have hr : ∀ x ∈ rs, x.1.length ≤ 61 ∧ x.2.length ≤ 61 := fun x hx => ⟨by have := (hn x hx).2; omega, by have := hk x hx; omega⟩
  unfold f__law_spoil_rooms b__law_spoil_rooms
  simp
  refine take_ok h (by omega) (by omega) fun t g1 t0 t1 o1 s1 => ?_
  unfold lz; simp [hlen]
  refine take_ok s1 (by omega) (by omega) fun d g2 d0 d1 o2 s2 => ?_
  have o2 := o1.trans o2
  obtain ⟨x, hx, ex⟩ := rd_at (rs := rs) d0 d1
  have hV : ∀ g3 : G, ∀ y ∈ RD rs, V r g3 2 61 y := fun g3 => V_rooms hr
  unfold lz; simp [ex]
  have put3 : ∀ {v : D} {g3 : G}, V r g3 3 62 v → Only [r] g g3 → Src g3 r → wp (f__law_put [.tup (RD rs), .int d, v] g3) Q := fun hv o s => put_V (n := 3) (m := 61) d0 (fun y hy => (hV _ y hy).mono (by omega) (by omega)) (by omega) (by omega) hv fun ds' z => q _ _ (z.mono (by omega) (by omega)) o s
  have put : ∀ {v : D} {g3 : G}, V r g3 2 62 v → Only [r] g g3 → Src g3 r → wp (f__law_put [.tup (RD rs), .int d, v] g3) Q := fun hv o s => put3 (hv.mono (by omega) (by omega)) o s
  unfold lz; simp
  by_cases c0 : t = 0
  · simp [c0, newL]
    exact q _ _ (V_lst (n := 3) (fun y hy => (hV _ y hy).mono (by omega) (by omega)) (by omega) (by have := s2.lt; omega) (lstOf_lst (get_snoc _ _))) (o2.trans (Only.snoc _ _ _)) (s2.snoc _)
  simp [c0]
  unfold lz; simp
  by_cases c1 : t = 1
  · simp [c1]
    exact odd_ok s2 fun v g3 hv o3 s3 => q v g3 (hv.mono (by omega) (by omega)) (o2.trans o3) s3
  simp [c1]
  unfold lz; simp
  by_cases c2 : t = 2
  · simp [c2]
    exact more_ok h6 (by omega) (by omega) hr fun v hv => q v g2 (hv.mono (by omega) (by omega)) o2 s2
  simp [c2]
  unfold lz; simp
  by_cases c3 : t = 3
  · simp [c3]
    exact more_ok h6 (by omega) (by omega) hr fun v hv => q v g2 (hv.mono (by omega) (by omega)) o2 s2
  simp [c3]
  unfold lz; simp
  by_cases c4 : t = 4
  · simp [c4]
    exact odd_ok s2 fun v g3 hv o3 s3 => put (hv.mono (by omega) (by omega)) (o2.trans o3) s3
  simp [c4]
  have pv : ∀ g3 : G, ∀ a b : D, V r g3 1 62 a → V r g3 1 62 b → V r g3 2 62 (.tup [a, b]) := fun g3 a b ha hb => V_tup (n := 1) (by intro d hd; simp at hd; rcases hd with rfl | rfl; exact ha; exact hb) (by simp)
  have x1 := hr x hx
  unfold lz; simp
  by_cases c5 : t = 5
  · simp [c5, newL]
    exact put (V_lst (n := 1) (ds := [.str x.1, .str x.2]) (by intro d hd; simp at hd; rcases hd with rfl | rfl <;> exact V_str (by omega)) (by simp) (by have := s2.lt; omega) (lstOf_lst (get_snoc _ _))) (o2.trans (Only.snoc _ _ _)) (s2.snoc _)
  simp [c5]
  unfold lz; simp
  by_cases c6 : t = 6
  · simp [c6, LINE]
    exact put (V_tup (n := 1) (by intro d hd; simp at hd; rcases hd with rfl | rfl | rfl <;> exact V_str (by first | omega | simp)) (by simp)) o2 s2
  simp [c6]
  unfold lz; simp
  by_cases c7 : t = 7
  · simp [c7]
    exact put (V_tup (n := 1) (fun y hy => by
      have : y ∈ [D.str x.1, .str x.2] := List.mem_of_mem_drop (List.mem_of_mem_take hy)
      simp at this
      rcases this with rfl | rfl <;> exact V_str (by omega)) (by simp [cut]; omega)) o2 s2
  simp [c7]
  unfold lz; simp
  by_cases c8 : t = 8
  · simp [c8]
    refine odd_ok s2 fun v g3 hv o3 s3 => ?_
    simp [LINE]
    exact put3 (V_tup (n := 2) (by intro d hd; simp at hd; rcases hd with rfl | rfl; exact hv.mono (by omega) (by omega); exact V_str (by omega)) (by simp)) (o2.trans o3) s3
  simp [c8]
  unfold lz; simp
  by_cases c9 : t = 9
  · simp [c9]
    refine sign_ok s2 (hn x hx).1 (by have := (hn x hx).2; omega) fun s' g3 hl3 o3 s3 => ?_
    simp [LINE]
    exact put (pv _ _ _ (V_str (by omega)) (V_str (by omega))) (o2.trans o3) s3
  simp [c9]
  unfold lz; simp
  by_cases c10 : t = 10
  · simp [c10, hlen]
    refine take_ok s2 (by omega) (by omega) fun e g3 e0 e1 o3 s3 => ?_
    obtain ⟨y, hy, ey⟩ := rd_at (rs := rs) e0 e1
    simp [ey]
    unfold lz; simp [LINE]
    exact put (pv _ _ _ (V_str (by have := hr y hy; omega)) (V_str (by omega))) (o2.trans o3) s3
  simp [c10]
  unfold lz; simp
  refine odd_ok s2 fun v g3 hv o3 s3 => ?_
  obtain ⟨w, rest, ew⟩ : ∃ w rest, os = w :: rest := by
    cases os with
    | nil => simp at o0
    | cons w rest => exact ⟨w, rest, rfl⟩
  have hw1 := how w (by rw [ew]; simp)
  rw [ew]
  simp
  refine sign_ok s3 hw1.1 (by omega) fun s' g4 hl4 o4 s4 => ?_
  refine ⟨by unfold LINE; omega, ?_⟩
  have o4 := o3.trans o4
  unfold lz; simp
  refine take_ok (s4.snoc _) (by omega) (by omega) fun e g5 e0 e1 o5 s5 => ?_
  have hl5 : lstOf (.ref g4.length) g5 = some [v, .str s', .str x.1, .str []] := lstOf_lst (o5.get (get_snoc _ _) (by have := s4.lt; simp; omega))
  have o4' : Only [r] g3 g5 := ((‹Only [r] g3 g4›).trans (Only.snoc _ _ _)).trans o5
  have o5 := (o4.trans (Only.snoc _ _ _)).trans o5
  obtain ⟨z, ez, hz⟩ : ∃ z, oIdx (.ref g4.length) (.int e) g5 = some z ∧ V r g5 2 61 z := by
    rw [idx_ref _ hl5, atI_int _ e0]
    have e1' : e.toNat < [v, D.str s', .str x.1, .str []].length := by simp; omega
    refine ⟨_, List.getElem?_eq_getElem e1', ?_⟩
    have := List.getElem_mem e1'
    generalize [v, D.str s', D.str x.1, D.str []][e.toNat] = z at this
    simp at this
    rcases this with rfl | rfl | rfl | rfl
    · exact hv.only o4'
    · exact V_str (by omega)
    · exact V_str (by omega)
    · exact V_str (by simp)
  simp [ez, LINE]
  exact put3 (V_tup (n := 2) (by intro d hd; simp at hd; rcases hd with rfl | rfl; exact V_str (by omega); exact hz.mono (by omega) (by omega)) (by simp)) (o2.trans o5) s5
end
end K01
end

section
set_option autoImplicit false
set_option linter.all false
namespace K01
open Py
section
variable {r n m k : Nat} {g g' : G} {v w : D} {p : P} {os : List (List Char)} {rs : List (List Char × List Char)} {person room : List Char}
theorem dueDev_sm (hl : os.length ≤ 1000) (hp : person.length ≤ 1000) : sm (dueDev os person) = true := by
  have := devP_len (· == person) os 0
  unfold dueDev
  split <;> simp [sm, sms, lit_3, toldL, devP_sm] <;> omega
theorem dueKeep_sm (hr : ∀ x ∈ rs, x.2.length ≤ 1000) (hp : room.length ≤ 1000) : sm (dueKeep rs room) = true := by
  unfold dueKeep
  split
  · rename_i x hx
    have := hr x (List.mem_of_find?_eq_some hx)
    simp [sm, sms, toldL]; omega
  · simp [sm, sms, lit_4]; omega
theorem dueDrop_sm (hl : os.length ≤ 1000) (hp : person.length ≤ 1000) (hm : room.length ≤ 1000) : sm (dueDrop os rs room person) = true := by
  unfold dueDrop
  split
  · simp [sm, sms, lit_4]; omega
  · rename_i x hx
    have := devP_len (fun o => o == person || o == x.2) os 0
    split <;> simp [sm, sms, lit_3, toldL, devP_sm] <;> omega
theorem keepD_view : view g 2 (dueKeepD rs room) = some (dueKeep rs room) := by
  unfold dueKeepD dueKeep
  cases rs.find? (fun x => x.1 == room) <;> exact view2 view_str1
theorem w2_ok {ρ : Env} {κ : Kt} (h1 : ρ[1]? = some (some (HD os rs))) (h3 : ρ[3]? = some (some (.str person))) (hl : os.length ≤ 1000) (hp : person.length ≤ 1000) (q : ∀ g', Only [] g g' → κ.nx ρ g') : wpS (w2__law_good ρ g) κ := by
  simp [h1, h3]
  refine law_devices_ok hl fun v g1 o1 v1 => ?_
  try simp
  refine due_devices_ok hl fun w g2 o2 v2 => ?_
  try simp
  rw [same_true 8 (o2.ext.view v1) v2 (by omega) (dueDev_sm hl hp)]
  simp
  exact q _ (o1.trans o2)
theorem w3_ok {ρ : Env} {κ : Kt} (h1 : ρ[1]? = some (some (HD os rs))) (h3 : ρ[3]? = some (some (.str person))) (h6 : ρ[6]? = some (some (.str room))) (hl : os.length ≤ 1000) (hp : person.length ≤ 1000) (hm : room.length ≤ 1000) (q : ∀ g', Only [] g g' → κ.nx ρ g') : wpS (w3__law_good ρ g) κ := by
  simp [h1, h3, h6]
  refine law_droppers_ok hl fun v g1 o1 v1 => ?_
  try simp
  refine due_droppers_ok hl fun w g2 o2 v2 => ?_
  try simp
  rw [same_true 8 (o2.ext.view v1) v2 (by omega) (dueDrop_sm hl hp hm)]
  simp
  exact q _ (o1.trans o2)
/-- a loop over a list of texts that only looks -/
theorem walk_strs {ss : List (List Char)} {a i : Nat} {b : S} {ρ : Env} {κ : Kt} (hi : i < ρ.length) (ha : lstOf (.ref a) g = some (ss.map .str))
    (step : ∀ s ∈ ss, ∀ (ρ1 : Env) g1, Only [] g g1 → ρ1.length = ρ.length → (∀ j, j ≠ i → j ∉ [3] → ρ1[j]? = ρ[j]?) → ρ1[i]? = some (some (.str s)) → ∀ κ' : Kt, (∀ (ρ2 : Env) g2, Only [] g1 g2 → ρ2.length = ρ.length → (∀ j, j ≠ i → j ∉ [3] → ρ2[j]? = ρ[j]?) → κ'.nx ρ2 g2) → wpS (b ρ1 g1) κ')
    (done : ∀ (ρ1 : Env) g1, Only [] g g1 → ρ1.length = ρ.length → (∀ j, j ≠ i → j ∉ [3] → ρ1[j]? = ρ[j]?) → κ.nx ρ1 g1) : wpS (forGo (itR a ss.length).get (gName i) b ((itR a ss.length).n + 1) 0 ρ g) κ := by
  have e : ss.length = (ss.map D.str).length := by simp
  rw [e]
  refine for_itR (fun _ ρ1 g1 => Only [] g g1 ∧ ρ1.length = ρ.length ∧ ∀ j, j ≠ i → j ∉ [3] → ρ1[j]? = ρ[j]?) ⟨Only.refl _ _, rfl, fun _ _ _ => rfl⟩ (fun _ _ _ h => h.1.lst ha (by simp)) ?_ ?_
  · rintro k d ρ1 g1 hd ⟨o, hl, hk⟩
    obtain ⟨s, hs, rfl⟩ := List.mem_map.mp (List.mem_of_getElem? hd)
    refine ⟨_, rfl, ?_⟩
    refine step s hs _ g1 o (by simp [hl]) (fun j hj h3 => by rw [List.getElem?_set_ne (Ne.symm hj)]; exact hk j hj h3) (by rw [List.getElem?_set_self (by omega)]) _ ?_
    intro ρ2 g2 o2 l2 k2
    exact ⟨o.trans o2, l2, k2⟩
  · rintro ρ1 g1 ⟨o, hl, hk⟩
    exact done ρ1 g1 o hl hk
/-- an expression that makes a list of texts -/
def MkS (ρ : Env) (g : G) (m : M) (A : List (List Char)) : Prop := ∀ Q : D → G → Prop, (∀ a g1, Only [] g g1 → g1[a]? = some (.lst (A.map .str)) → Q (.ref a) g1) → wp (m ρ g) Q
theorem mk_var {ρ : Env} {i a : Nat} {A : List (List Char)} (h : ρ[i]? = some (some (.ref a))) (ha : g[a]? = some (.lst (A.map .str))) : MkS ρ g (mVar i) A := fun Q q => by
  simp [h]
  exact q a g (Only.refl _ _) ha
theorem cut_map {α β : Type} (f : α → β) (xs : List α) (lo hi : Option Int) : cut (xs.map f) lo hi = (cut xs lo hi).map f := by simp [cut]
theorem mk_sl {ρ : Env} {i a : Nat} {k : Int} {A : List (List Char)} (h : ρ[i]? = some (some (.ref a))) (ha : g[a]? = some (.lst (A.map .str))) : MkS ρ g (mSl (mVar i) none (some (mC (.int k)))) (cut A none (some k)) := fun Q q => by
  simp [h, sl_ref _ _ (lstOf_lst ha), newL]
  exact q _ _ (Only.snoc _ _ _) (by rw [cut_map]; exact get_snoc _ _)
theorem mk_add {ρ : Env} {m1 m2 : M} {A B : List (List Char)} (h1 : MkS ρ g m1 A) (h2 : ∀ g1, Only [] g g1 → MkS ρ g1 m2 B) (hl : A.length + B.length ≤ 1000) : MkS ρ g (mOp oAdd m1 m2) (A ++ B) := fun Q q => by
  simp only [x_op, wp_bind]
  refine h1 _ fun a g1 o1 ha => ?_
  refine h2 g1 o1 _ fun b g2 o2 hb => ?_
  rw [add_lst (o2.get ha (by simp)) hb]
  exact ⟨by simp [LINE]; omega, q _ _ ((o1.trans o2).trans (Only.snoc _ _ _)) (by rw [List.map_append]; exact get_snoc _ _)⟩
theorem cut_len {α : Type} (xs : List α) (lo hi : Option Int) : (cut xs lo hi).length ≤ xs.length := by
  unfold cut
  rw [List.length_take, List.length_drop]; omega
theorem cut_mem {α : Type} {xs : List α} {lo hi : Option Int} {x : α} (h : x ∈ cut xs lo hi) : x ∈ xs := List.mem_of_mem_drop (List.mem_of_mem_take h)
theorem dd_nx {xs ys : List (List Char)} (nd : ys.Nodup) (m : ∀ x, x ∈ ys ↔ x ∈ xs) : sortS ys = sortS (ddS xs) :=
  sortS_dd ((sortS_perm ys).nodup_iff.mpr nd) (fun x => ((sortS_perm ys).mem_iff).trans (m x)) (sortS_ord ys)
theorem good_ok (h : Src g r) (o0 : 1 ≤ os.length) (o8 : os.length ≤ 8) (how : Words os) (h0 : 1 ≤ rs.length) (h6 : rs.length ≤ 6) (hw : Words (rs.map (·.1))) (hk : ∀ x ∈ rs, x.2.length ≤ 8) {Q : D → G → Prop} (q : ∀ g', Q (.bl true) g') : wp (f__law_good [.ref r, HD os rs] g) Q := by
  have hlt := h.lt
  have hn : ∀ x ∈ rs, 1 ≤ x.1.length ∧ x.1.length ≤ 8 := fun x hx => hw x.1 (List.mem_map.mpr ⟨x, hx, rfl⟩)
  unfold f__law_good b__law_good
  simp
  unfold lz; simp [hd_0]
  refine for_itL (fun i ρ g' => Only [] g g' ∧ ∃ (ps : List (List Char)) (y : Option D), ρ = [some (.ref r), some (HD os rs), some (.ref g.length), y, none, none, none, none] ∧ g'[g.length]? = some (.lst (ps.map .str)) ∧ ps.Nodup ∧ ps.length ≤ i ∧ ∀ x, x ∈ ps ↔ x ∈ os.take i) ⟨Only.snoc _ _ _, [], none, rfl, get_snoc _ _, List.nodup_nil, by simp, by simp⟩ ?_ ?_
  · rintro i d ρ g1 hd ⟨o1, ps, y, rfl, hp, nd, pl, hm⟩
    have hi := (List.getElem?_eq_some_iff.mp hd).1
    rw [List.length_map] at hi
    rw [List.getElem?_map, List.getElem?_eq_getElem hi] at hd
    simp at hd
    subst hd
    refine ⟨_, rfl, ?_⟩
    have hin := in_strs (g := g1) os[i] (lstOf_lst hp)
    have htk : ∀ x, x ∈ os.take (i + 1) ↔ x ∈ os.take i ∨ x = os[i] := fun x => by rw [List.take_add_one, List.getElem?_eq_getElem hi, List.mem_append]; simp only [Option.toList_some, List.mem_singleton]
    simp [hin]
    by_cases c : os[i] ∈ ps
    · simp [c]
      refine ⟨o1, ps, hp, nd, by omega, fun x => ?_⟩
      rw [htk, hm]
      exact ⟨.inl, fun z => z.elim id fun e => by rw [e]; exact (hm _).mp c⟩
    · simp [c, lstOf_lst hp]
      rw [append_lst hp]
      refine ⟨by simp [LINE]; omega, o1.then (Only.set (ws := [g.length]) (.inl (by simp)) _) (by simp), ps ++ [os[i]], by simpa using at_set hp, ?_, by simp; omega, fun x => ?_⟩
      · exact List.nodup_append.mpr ⟨nd, by simp, fun a ha b hb => by simp at hb; subst hb; rintro rfl; exact c ha⟩
      · rw [htk, List.mem_append, hm]; simp
  rintro ρ g1 ⟨o1, ps, y, rfl, hp, nd, pl, hm⟩
  simp at pl hm
  have hso : sortS ps = sortS (ddS os) := dd_nx nd hm
  have hsl : (sortS ps).length = ps.length := (sortS_perm ps).length_eq
  have es : oSorted (.ref g.length) g1 = some (newL ((sortS ps).map .str) g1) := by
    unfold oSorted
    rw [lstOf_lst hp]
    simp [allS_map]
  have hpw : ∀ s ∈ sortS ps, 1 ≤ s.length ∧ s.length ≤ 8 := fun s hs => how s ((hm s).mp ((sortS_perm ps).mem_iff.mp hs))
  have hp1 : 1 ≤ ps.length := by
    cases os with
    | nil => simp at o0
    | cons o os => exact List.length_pos_of_mem ((hm o).mpr (by simp))
  unfold lz; simp [es, newL]
  obtain ⟨g2, hg2⟩ : ∃ g2, g2 = g1 ++ [O.lst ((sortS ps).map .str)] := ⟨_, rfl⟩
  have o2 : Only [] g g2 := by rw [hg2]; exact o1.trans (Only.snoc _ _ _)
  have p2 : g2[g1.length]? = some (.lst ((sortS ps).map .str)) := by rw [hg2]; exact get_snoc _ _
  rw [← hg2]
  unfold lz; simp [hd_1]
  rw [show (itL (rs.map fun r => D.tup [.str r.1, .str r.2])).n = (rs.map fun r => D.tup [.str r.1, .str r.2]).length from rfl]
  rw [lc_fil (ds := rs.map fun r => D.tup [.str r.1, .str r.2]) (fun _ d => match d with | .tup [.str a, _] => some (.str a) | _ => none) (fun i acc => rfl) (by simp; unfold LINE; omega)]
  · have ef : ∀ (l : List (List Char × List Char)) (k : Nat), filmap (fun _ d => match d with | .tup [.str a, _] => some (D.str a) | _ => none) k (l.map fun r => D.tup [.str r.1, .str r.2]) = (l.map (·.1)).map .str := by
      intro l
      induction l with
      | nil => intro k; rfl
      | cons x l ih => intro k; simp [filmap, ih]
    rw [ef]
    simp only [wp_ok]
    simp
    obtain ⟨g3, hg3⟩ : ∃ g3, g3 = g2 ++ [O.lst ((rs.map (·.1)).map .str)] := ⟨_, rfl⟩
    have o3 : Only [] g g3 := by rw [hg3]; exact o2.trans (Only.snoc _ _ _)
    have p3 : g3[g1.length]? = some (.lst ((sortS ps).map .str)) := by rw [hg3]; exact at_snoc p2
    have n3 : g3[g2.length]? = some (.lst ((rs.map (·.1)).map .str)) := by rw [hg3]; exact get_snoc _ _
    simp only [List.map_map] at hg3
    first | rw [← hg3] | (simp only [List.map_map]; rw [← hg3])
    clear hg2 hg3 es
    unfold lz; simp
    obtain ⟨person, hper⟩ : ∃ person, (sortS (ddS os))[(sortS (ddS os)).length - 1]? = some person := by
      rw [← hso]
      exact ⟨_, List.getElem?_eq_getElem (by omega)⟩
    obtain ⟨room, hroom⟩ : ∃ room, (rs.map (·.1))[(rs.map (·.1)).length - 1]? = some room := ⟨_, List.getElem?_eq_getElem (by simp; omega)⟩
    obtain ⟨x, hx⟩ : ∃ x, rs.find? (fun x => x.1 == room) = some x := by
      obtain ⟨y, hy, e⟩ := List.mem_map.mp (List.mem_of_getElem? hroom)
      have : (rs.find? (fun x => x.1 == room)).isSome = true := List.find?_isSome.mpr ⟨y, hy, by simp [e]⟩
      exact Option.isSome_iff_exists.mp this
    refine lists_ok (person := person) (room := room) (x := x) (by rw [← hso]; exact p3) n3 (by omega) (by omega) (fun s hs => by have := how s hs; omega) (fun x hx => by have := hn x hx; omega) (by rw [← hso]; omega) hper hroom hx fun g4 o4 => ?_
    simp
    have p4 := o4.get p3 (by simp)
    have n4 := o4.get n3 (by simp)
    have o4 := o3.trans o4
    have s4 : Src g4 r := by
      obtain ⟨c, m, e, z⟩ := h
      exact ⟨c, m, o4.get e (by simp), z⟩
    obtain ⟨w, hw0, ew⟩ : ∃ w ∈ sortS ps, oIdx (.ref g1.length) (.int 0) g4 = some (.str w) := by
      rw [idx_ref _ (lstOf_lst p4)]
      simp
      have : 0 < (sortS ps).length := by omega
      exact ⟨_, List.getElem_mem this, by rw [List.getElem?_eq_getElem this]; try simp⟩
    have hw1 := hpw w hw0
    unfold lz; simp [ew]
    refine sign_ok s4 hw1.1 (by omega) fun s' g5 hl5 o5 s5 => ?_
    have o5' := o5
    have hr1 : g1.length ∉ [r] := by have := o1.len; simp; omega
    have hr2 : g2.length ∉ [r] := by have := o2.len; simp; omega
    have p5 := o5.get p4 hr1
    have n5 := o5.get n4 hr2
    try simp
    rw [add_lst p5 n5]
    refine ⟨by simp [LINE]; omega, ?_⟩
    refine word_ok (ws := sortS ps ++ rs.map (·.1)) (s5.snoc _) (by rw [List.map_append]; exact lstOf_lst (get_snoc _ _)) ?_ (by simp; omega) (by have := s5.lt; omega) fun w2 g6 w20 w28 o6 s6 => ?_
    · intro s hs
      rcases List.mem_append.mp hs with hs | hs
      · exact hpw s hs
      · exact hw s hs
    have p6 := o6.get (at_snoc (o' := .lst ((sortS ps).map .str ++ (rs.map (·.1)).map .str)) p5) hr1
    have n6 := o6.get (at_snoc (o' := .lst ((sortS ps).map .str ++ (rs.map (·.1)).map .str)) n5) hr2
    simp [LINE]
    obtain ⟨g7, hg7⟩ : ∃ g7, g7 = g6 ++ [O.lst [.str s', .str w2, .str []]] := ⟨_, rfl⟩
    have p7 : g7[g1.length]? = some (.lst ((sortS ps).map .str)) := by rw [hg7]; exact at_snoc p6
    have n7 : g7[g2.length]? = some (.lst ((rs.map (·.1)).map .str)) := by rw [hg7]; exact at_snoc n6
    have t7 : g7[g6.length]? = some (.lst ([s', w2, []].map .str)) := by rw [hg7]; exact get_snoc _ _
    rw [← hg7]
    clear hg7 p3 n3 p4 n4 p5 n5 p6 n6
    have hnl : (rs.map (·.1)).length = rs.length := by simp
    have strl : ∀ s ∈ [s', w2, []], s.length ≤ 1000 := by
      intro s hs
      simp at hs
      rcases hs with rfl | rfl | rfl
      · omega
      · omega
      · simp
    have perl : ∀ s ∈ sortS ps, s.length ≤ 1000 := fun s hs => by have := hpw s hs; omega
    have naml : ∀ s ∈ rs.map (·.1), s.length ≤ 1000 := fun s hs => by have := hw s hs; omega
    have keyl : ∀ x ∈ rs, x.2.length ≤ 1000 := fun x hx => by have := hk x hx; omega
    have pcl := fun k : Int => cut_len (sortS ps) none (some k)
    have ncl := fun k : Int => cut_len (rs.map (·.1)) none (some k)
    have scl := fun k : Int => cut_len [s', w2, []] none (some k)
    have e3 : ([s', w2, []] : List (List Char)).length = 3 := rfl
    unfold lz; simp only [y_seq, y_for, x_any, wpS_onR, wp_bind]
    refine mk_add (mk_add (mk_var rfl p7) (fun g8 o8 => mk_sl rfl (o8.get n7 (by simp))) (by have := ncl 2; omega)) (fun g8 o8 => mk_var rfl (o8.get t7 (by simp))) (by have := ncl 2; simp only [List.length_append]; omega) _ fun a1 g8 o8 h8 => ?_
    rw [iter_ref (lstOf_lst h8)]
    simp only [ofP_some, wp_ok, List.length_map]
    refine walk_strs (by simp) (lstOf_lst h8) ?_ ?_
    · intro s hs ρ1 g9 o9 l9 k9 i9 κ' q'
      have hsl : s.length ≤ 1000 := by
        rcases List.mem_append.mp hs with hs | hs
        · rcases List.mem_append.mp hs with hs | hs
          · exact perl s hs
          · exact naml s (cut_mem hs)
        · exact strl s hs
      refine w2_ok (by rw [k9 1 (by omega) (by simp)]; rfl) i9 (by omega) hsl fun g10 o10 => ?_
      exact q' ρ1 g10 o10 l9 k9
    intro ρ1 g9 o9 l9 k9
    have p9 := o9.get (o8.get p7 (by simp)) (by simp)
    have n9 := o9.get (o8.get n7 (by simp)) (by simp)
    have t9 := o9.get (o8.get t7 (by simp)) (by simp)
    have j1 : ρ1[1]? = some (some (HD os rs)) := by rw [k9 1 (by omega) (by simp)]; rfl
    have j2 : ρ1[2]? = some (some (.ref g1.length)) := by rw [k9 2 (by omega) (by simp)]; rfl
    have j4 : ρ1[4]? = some (some (.ref g2.length)) := by rw [k9 4 (by omega) (by simp)]; rfl
    have j5 : ρ1[5]? = some (some (.ref g6.length)) := by rw [k9 5 (by omega) (by simp)]; rfl
    simp only [List.length_cons, List.length_nil] at l9
    unfold lz; simp only [y_seq, y_for, x_any, wpS_onR, wp_bind]
    refine mk_add (mk_add (mk_var j4 n9) (fun g8 o8 => mk_sl j2 (o8.get p9 (by simp))) (by have := pcl 2; omega)) (fun g8 o8 => mk_var j5 (o8.get t9 (by simp))) (by have := pcl 2; simp only [List.length_append]; omega) _ fun a2 g10 o10 h10 => ?_
    rw [iter_ref (lstOf_lst h10)]
    simp only [ofP_some, wp_ok, List.length_map]
    have p10 := o10.get p9 (by simp)
    have n10 := o10.get n9 (by simp)
    have t10 := o10.get t9 (by simp)
    refine walk_strs (by omega) (lstOf_lst h10) ?_ ?_
    · intro s hs ρ2 g11 o11 l11 k11 i11 κ' q'
      have hsl : s.length ≤ 1000 := by
        rcases List.mem_append.mp hs with hs | hs
        · rcases List.mem_append.mp hs with hs | hs
          · exact naml s hs
          · exact perl s (cut_mem hs)
        · exact strl s hs
      have p11 := o11.get p10 (by simp)
      have n11 := o11.get n10 (by simp)
      have t11 := o11.get t10 (by simp)
      have m1 : ρ2[1]? = some (some (HD os rs)) := by rw [k11 1 (by omega) (by simp)]; exact j1
      have m2 : ρ2[2]? = some (some (.ref g1.length)) := by rw [k11 2 (by omega) (by simp)]; exact j2
      have m4 : ρ2[4]? = some (some (.ref g2.length)) := by rw [k11 4 (by omega) (by simp)]; exact j4
      have m5 : ρ2[5]? = some (some (.ref g6.length)) := by rw [k11 5 (by omega) (by simp)]; exact j5
      simp [m1, i11]
      refine law_keeper_ok fun g12 o12 => ?_
      try simp
      refine due_keeper_ok ?_
      try simp
      rw [same_true 8 keepD_view keepD_view (by omega) (dueKeep_sm keyl hsl)]
      simp
      unfold lz; simp only [y_seq, y_for, x_any, wpS_onR, wp_bind]
      have p12 := o12.get p11 (by simp)
      have n12 := o12.get n11 (by simp)
      have t12 := o12.get t11 (by simp)
      refine mk_add (mk_add (mk_var m2 p12) (fun g8 o8 => mk_sl m4 (o8.get n12 (by simp))) (by have := ncl 1; omega)) (fun g8 o8 => mk_sl m5 (o8.get t12 (by simp))) (by have := ncl 1; have := scl 2; simp only [List.length_append]; omega) _ fun a3 g13 o13 h13 => ?_
      rw [iter_ref (lstOf_lst h13)]
      simp only [ofP_some, wp_ok, List.length_map]
      refine walk_strs (by omega) (lstOf_lst h13) ?_ ?_
      · intro s2 hs2 ρ3 g14 o14 l14 k14 i14 κ2 q2
        have hs2l : s2.length ≤ 1000 := by
          rcases List.mem_append.mp hs2 with hs | hs
          · rcases List.mem_append.mp hs with hs | hs
            · exact perl s2 hs
            · exact naml s2 (cut_mem hs)
          · exact strl s2 (cut_mem hs)
        refine w3_ok (room := s) (by rw [k14 1 (by omega) (by simp)]; exact m1) i14 (by rw [k14 6 (by omega) (by simp)]; exact i11) (by omega) hs2l hsl fun g15 o15 => ?_
        exact q2 ρ3 g15 o15 l14 k14
      · intro ρ3 g14 o14 l14 k14
        refine q' ρ3 g14 ((o12.trans o13).trans o14) (by omega) fun j hj h3 => ?_
        rw [k14 j (by simpa using h3) h3]
        exact k11 j hj h3
    intro ρ2 g11 o11 l11 k11
    unfold lz; simp
    exact q _
  · intro i d acc hd
    obtain ⟨x, hx, rfl⟩ := List.mem_map.mp (List.mem_of_getElem? hd)
    refine ⟨_, rfl, ?_⟩
    simp [wipe]
end
end K01
end

section
set_option autoImplicit false
set_option linter.all false
namespace K01
open Py
section
variable {r n m k : Nat} {g g' : G} {v w o5 : D} {p pr : P} {os : List (List Char)} {rs : List (List Char × List Char)}
theorem two_strs {n k : List Char} {es : List D} {m : Nat} (h : viewL (view g m) es = some [P.str n, P.str k]) : es = [.str n, .str k] := by
  have hl := viewL_len h
  rcases es with _ | ⟨a, _ | ⟨b, _ | ⟨c, es⟩⟩⟩
  · simp at hl
  · simp at hl
  · obtain ⟨p1, q1, e1, h1, h2⟩ := viewL_cons.mp h
    simp only [List.cons.injEq] at e1
    obtain ⟨rfl, rfl⟩ := e1
    obtain ⟨p2, q2, e2, h3, h4⟩ := viewL_cons.mp h2
    simp only [List.cons.injEq] at e2
    obtain ⟨rfl, rfl⟩ := e2
    rw [view_str h1, view_str h3]
  · simp at hl
theorem go_ex {os : List (List Char)} : ∀ {ds : List D} {ps : List P} {ts : List (List Char)} {m : Nat}, viewL (view g m) ds = some ps → roomsGo os ts ps = true → ∃ rs : List (List Char × List Char), ds = RD rs ∧ Words (rs.map (·.1)) ∧ ∀ x ∈ rs, x.2 = [] ∨ x.2 ∈ os
  | [], ps, ts, m, h, hg => ⟨[], rfl, by simp [Words], by simp⟩
  | d :: ds, ps, ts, m, h, hg => by
    obtain ⟨q, qs, rfl, h1, h2⟩ := viewL_cons.mp h
    unfold roomsGo at hg
    split at hg
    · rename_i e; simp at e
    · rename_i n k r e
      simp only [List.cons.injEq] at e
      obtain ⟨rfl, rfl⟩ := e
      simp only [Bool.and_eq_true] at hg
      obtain ⟨⟨⟨hw, hn⟩, hk⟩, hr⟩ := hg
      obtain ⟨rs, e1, e2, e3⟩ := go_ex h2 hr
      have h6 : d = .tup [.str n, .str k] := by
        rcases view_inv h1 with ⟨_, e⟩ | ⟨_, _, e⟩ | ⟨_, _, e⟩ | ⟨_, _, e⟩ | ⟨m', es, qs, _, rfl, e, h3⟩ | ⟨_, _, _, _, _, _, _, e, _⟩ <;> cases e
        rw [two_strs h3]
      refine ⟨(n, k) :: rs, by rw [h6, e1]; rfl, ?_, ?_⟩
      · intro s hs
        simp only [List.map_cons, List.mem_cons] at hs
        rcases hs with rfl | hs
        · simp [wordP] at hw; omega
        · exact e2 s hs
      · intro x hx
        rcases List.mem_cons.mp hx with rfl | hx
        · simpa using hk
        · exact e3 x hx
    · cases hg
theorem rooms_ex {m : Nat} (h : view g m v = some pr) (hr : roomsP os pr = true) : ∃ rs : List (List Char × List Char), v = .tup (RD rs) ∧ 1 ≤ rs.length ∧ rs.length ≤ 6 ∧ Words (rs.map (·.1)) ∧ ∀ x ∈ rs, x.2 = [] ∨ x.2 ∈ os := by
  rcases view_inv h with ⟨_, rfl⟩ | ⟨_, _, rfl⟩ | ⟨_, _, rfl⟩ | ⟨_, _, rfl⟩ | ⟨m', es, qs, _, rfl, rfl, h3⟩ | ⟨_, _, _, _, _, _, _, rfl, _⟩ <;> first | cases hr | skip
  simp only [roomsP, Bool.and_eq_true, decide_eq_true_eq] at hr
  obtain ⟨rs, e1, e2, e3⟩ := go_ex h3 hr.2
  have hl := viewL_len h3
  have : es.length = rs.length := by rw [e1]; simp [RD]
  exact ⟨rs, by rw [e1], by omega, by omega, e2, e3⟩
theorem owners_ex {m : Nat} (h : view g m v = some pr) (hr : ownersP pr = true) : ∃ os : List (List Char), v = .tup (os.map .str) ∧ pr = .tup (os.map .str) ∧ 1 ≤ os.length ∧ os.length ≤ 8 ∧ Words os := by
  rcases view_inv h with ⟨_, rfl⟩ | ⟨_, _, rfl⟩ | ⟨_, _, rfl⟩ | ⟨_, _, rfl⟩ | ⟨m', es, qs, _, rfl, rfl, h3⟩ | ⟨_, _, _, _, _, _, _, rfl, _⟩ <;> first | cases hr | skip
  simp only [ownersP, Bool.and_eq_true, decide_eq_true_eq] at hr
  obtain ⟨os, e1, e2⟩ := words_of h3 hr.2
  have hl : qs.length = os.length := by rw [e2]; simp
  refine ⟨os, by rw [e1], by rw [e2], by omega, by omega, fun s hs => ?_⟩
  have := List.all_eq_true.mp hr.2 (.str s) (by rw [e2]; exact List.mem_map.mpr ⟨s, hs, rfl⟩)
  simp [wordP] at this; omega
theorem law_ok {s : Nat} {is : List Int} (h : g[s]? = some (.frz (is.map .int))) : wp (f_law [.ref s] g) fun v _ => v = .bl true := by
  unfold f_law b_law
  simp
  have h := lstOf_frz h
  refine source_ok h (by omega) (by omega) fun c m c0 m0 m1 => ?_
  have s1 : Src (g ++ [.lst [.int c, .int m]]) g.length := ⟨c, m, get_snoc _ _, c0, m0, m1⟩
  refine house_ok s1 fun os rs g2 ho0 ho1 hr0 hr1 how hrw hkp o2 _ => ?_
  have o2 : Only [] g g2 := (Only.snoc _ _ _).then o2 (by simp)
  unfold lz; simp
  refine source_ok (o2.lst h (by simp)) (by omega) (by omega) fun c m c0 m0 m1 => ?_
  have s3 : Src (g2 ++ [.lst [.int c, .int m]]) g2.length := ⟨c, m, get_snoc _ _, c0, m0, m1⟩
  generalize g2 ++ [.lst [.int c, .int m]] = g3 at s3
  generalize g2.length = r at s3
  unfold lz; simp
  refine take_ok s3 (by omega) (by omega) fun mode g4 d0 d1 o4 s4 => ?_
  unfold lz; simp [hd_0]
  unfold lz; simp [hd_1]
  have hkl : ∀ x ∈ rs, x.2.length ≤ 8 := fun x hx => by
    rcases hkp x hx with e | e
    · rw [e]; simp
    · exact (how _ e).2
  have hrl : ∀ x ∈ rs, x.1.length ≤ 61 ∧ x.2.length ≤ 61 := fun x hx => ⟨by have := (hrw x.1 (List.mem_map.mpr ⟨x, hx, rfl⟩)).2; omega, by have := hkl x hx; omega⟩
  have ends : ∀ (v4 v5 : D) (g6 : G) (y : Option D), V r g6 4 100 v4 → V r g6 4 100 v5 → Src g6 r → lz q6_law [some (.ref s), some (HD os rs), some (.ref r), some (.int mode), some v4, some v5, none, none, none] g6 ⟨fun _ _ => False, fun v _ => v = .bl true, fun _ _ => False, fun _ _ => False⟩ := by
    intro v4 v5 g6 y h4 h5 s6
    have hv : V r g6 5 100 (.tup [v4, v5]) := V_tup (n := 4) (by intro d hd; simp at hd; rcases hd with rfl | rfl; exact h4; exact h5) (by simp)
    obtain ⟨p4, vp4, z4⟩ := h4.view (by omega)
    obtain ⟨p5, vp5, z5⟩ := h5.view (by omega)
    obtain ⟨pa, vpa, za⟩ := hv.view (by omega)
    unfold lz; simp [LINE]
    unfold lz; simp
    refine wp_imp (copy_ok 8 5 g6 (.tup [v4, v5]) pa vpa (by omega) za) ?_
    rintro w g7 ⟨o7, hw⟩
    have w7 := vx_view (hw [] (by simp))
    have s7 : Src g7 r := by
      obtain ⟨c, m, e, z⟩ := s6
      exact ⟨c, m, o7.get e (by simp), z⟩
    have f4 := o7.ext.view vp4
    have f5 := o7.ext.view vp5
    have fa := o7.ext.view vpa
    have chk : ∀ {Q : D → G → Prop} {g8 : G} (due : P), Only [] g7 g8 → (ownersP p4 = false → due = .tup [.str ['b', 'a', 'd'], .int 0]) → (∀ os, ownersP p4 = true → p4 = .tup (os.map .str) → due = if roomsP os p5 = true then .tup [.str ['f', 'i', 'n', 'e']] else .tup [.str ['b', 'a', 'd'], .int 1]) → (∀ v g9, Only [] g8 g9 → view g9 1 v = some due → Q v g9) → wp (f__law_checked [.tup [v4, v5]] g8) Q := by
      intro Q g8 due o8 e0 e1 q
      refine checked_ok (o8.ext.view f4) (o8.ext.view f5) z4 z5 ?_ ?_ ?_
      · intro hb g9 o9
        exact q _ _ o9 (by rw [e0 hb]; simp [bad, view, viewL])
      · intro os' g9 hg eo o9
        refine q _ _ o9 ?_
        have ep : p4 = .tup (os'.map .str) := by
          obtain ⟨os2, e2, e3, _⟩ := owners_ex f4 hg
          rw [e2] at eo
          simp only [D.tup.injEq] at eo
          rw [e3]
          have := (List.map_inj_right (f := D.str) (by intro a b; simp)).mp eo
          rw [this]
        rw [e1 os' hg ep]
        split <;> simp [bad, fine, view, viewL]
      · intro hg
        obtain ⟨os2, e2, _⟩ := owners_ex f4 hg
        exact ⟨os2, e2⟩
    unfold lz; simp
    refine law_fault_ok f4 f5 z4 z5 ?_ ?_
    · intro hb
      try simp
      unfold lz; simp
      refine chk (.tup [.str ['b', 'a', 'd'], .int 0]) (Only.refl _ _) (fun _ => rfl) (fun _ hg => by rw [hb] at hg; cases hg) fun v g9 o9 hv9 => ?_
      try simp
      rw [same_true 8 (n2 := 1) (w := bad 0) hv9 (by simp [bad, view, viewL]) (by omega) (by simp [sm, sms])]
      simp
      rw [same_true 8 (o9.ext.view fa) (o9.ext.view w7) (by omega) za]
      simp
      unfold lz; simp [bad]
    · intro os' g8 hg eo o8
      obtain ⟨os2, e2, e3, l1, l2, hw2⟩ := owners_ex f4 hg
      have : os2 = os' := by
        rw [e2] at eo
        simp only [D.tup.injEq] at eo
        exact (List.map_inj_right (f := D.str) (by intro a b; simp)).mp eo
      subst this
      try simp
      cases hR : roomsP os2 p5 with
      | false =>
        simp
        unfold lz; simp
        refine chk (.tup [.str ['b', 'a', 'd'], .int 1]) o8 (fun hb => by rw [hb] at hg; cases hg) (fun os3 _ e => ?_) fun v g9 o9 hv9 => ?_
        · rw [e3] at e
          simp only [P.tup.injEq] at e
          rw [← (List.map_inj_right (f := P.str) (by intro a b; simp)).mp e, hR]
          simp
        · try simp
          rw [same_true 8 (n2 := 1) (w := bad 1) hv9 (by simp [bad, view, viewL]) (by omega) (by simp [sm, sms])]
          simp
          rw [same_true 8 (o9.ext.view (o8.ext.view fa)) (o9.ext.view (o8.ext.view w7)) (by omega) za]
          simp
          unfold lz; simp [bad]
      | true =>
        obtain ⟨rs2, er, rl1, rl2, rw2, rk2⟩ := rooms_ex f5 hR
        simp
        unfold lz; simp
        refine chk (.tup [.str ['f', 'i', 'n', 'e']]) o8 (fun hb => by rw [hb] at hg; cases hg) (fun os3 _ e => ?_) fun v g9 o9 hv9 => ?_
        · rw [e3] at e
          simp only [P.tup.injEq] at e
          rw [← (List.map_inj_right (f := P.str) (by intro a b; simp)).mp e, hR]
          simp
        · try simp
          rw [same_true 8 (n2 := 1) (w := fine) hv9 (by simp [fine, view, viewL]) (by omega) (by simp [sm, sms])]
          simp
          rw [same_true 8 (o9.ext.view (o8.ext.view fa)) (o9.ext.view (o8.ext.view w7)) (by omega) za]
          simp
          unfold lz; simp [fine]
          unfold lz; simp
          subst e2 er
          have s9 : Src g9 r := by
            obtain ⟨c, m, e, z⟩ := s7
            exact ⟨c, m, o9.get (o8.get e (by simp)) (by simp), z⟩
          refine good_ok (os := os2) (rs := rs2) s9 l1 l2 hw2 rl1 rl2 rw2 (fun x hx => ?_) fun g' => rfl
          rcases rk2 x hx with e | e
          · rw [e]; simp
          · exact (hw2 _ e).2
  have vr : ∀ g5 : G, V r g5 4 100 (.tup (RD rs)) := fun g5 => (V_tup (n := 2) (m := 61) (V_rooms hrl) (by simp [RD]; omega)).mono (by omega) (by omega)
  have vo : ∀ g5 : G, V r g5 4 100 (.tup (os.map .str)) := fun g5 => (V_tup (n := 2) (m := 61) (V_strs fun s hs => by have := (how s hs).2; omega) (by simp; omega)).mono (by omega) (by omega)
  have next : ∀ (v4 : D) (g6 : G), V r g6 4 100 v4 → Src g6 r → lz q7_law [some (.ref s), some (HD os rs), some (.ref r), some (.int mode), some v4, some (.tup (RD rs)), none, none, none] g6 ⟨fun _ _ => False, fun v _ => v = .bl true, fun _ _ => False, fun _ _ => False⟩ := by
    intro v4 g6 h4 s6
    unfold lz; simp
    by_cases c : 1 < mode
    · simp [c, hd_0]
      refine spoil_rooms_ok s6 ho0 ho1 how hr0 hr1 hrw hkl fun v g7 hv o7 s7 => ?_
      exact ends _ _ _ none (h4.only o7) hv s7
    · simp [c]
      exact ends _ _ _ none h4 (vr _) s6
  unfold lz; simp
  by_cases c : mode = 1 ∨ mode = 3
  · have e : (if mode = 1 then (R.ok true g4) else (R.ok (decide (mode = 3)) g4)) = R.ok true g4 := by
      rcases c with c | c <;> simp [c]
    rcases c with c | c
    all_goals
      simp [c]
      refine spoil_owners_ok s4 ho0 ho1 how fun v g5 hv o5 s5 => ?_
      have := next v g5 (hv.mono (by omega) (by omega)) s5
      rw [c] at this
      exact this
  · have c1 : ¬ mode = 1 := fun z => c (.inl z)
    have c3 : ¬ mode = 3 := fun z => c (.inr z)
    simp [c1, c3]
    exact next _ _ (vo _) s4
end
end K01
end

open PySem PySem.W PyProof.Rows
theorem PySem.Challenge.cw_hearsay_k01_houses_holds : PySem.Challenge.rw_hearsay_k01_houses.Holds := by
  exact rw_hearsay_k01_houses_holds_of fun is => K01.law_ok rfl
