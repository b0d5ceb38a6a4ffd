import PyProof.Rows.All
import Wide.All
import OpenK.AllK
import Wide.FinOn
import PySem.Challenge.RW_hearsay_k37_bonds_values_or_ring
import HandS.ForMost
import HandS.ForExc
import HandS.IsInst
import HandS.Wide
import HandS.TupAny
import HandS.TupMul
import HandS.Deep
import HandS.SetTxt0
import HandS.SetFor
import PyProof.Rows.SortShellAny
import PyProof.StrBlock2
import KE.GoesMore
import HandS.Iter
import KE.KExcSuper
import HandS.Exc
import HandS.ExcInit
import HandS.ExcOwn
import HandS.WordsExc
import HandS.ExcIs
import HandS.ExcField
import HandS.TryMany
import HandS.TryOnly
import KE.KExcIs
import KE.KSuper
import HandS.HeadHook1
import HandS.HeadHook2
import HandS.Ends
import PyProof.ListNew
import HandS.RevTup
import HandS.Rev
import HandS.Style
import HandS.Conv
import HandS.Defaults
import HandS.HeadEnd
import PyProof.ReprRoads
import PyProof.CallFns
import KE.KStateDown
import HandS.More
import HandS.Head0
import HandS.Head1
import HandS.Head2
import HandS.EndBits
set_option Elab.async false
set_option linter.all false
section
set_option autoImplicit false
/-! A small deterministic semantics: data trees, a store of mutable objects, combinators for expressions, tests, statements. Plain Lean. -/
namespace Py
inductive D where
  | non | bl (b : Bool) | int (i : Int) | str (s : List Char) | tup (ds : List D) | ref (r : Nat) | adr (a : Nat)
deriving Inhabited
/-- a mutable object: a list; a list that is only read -/
inductive O where
  | lst (xs : List D) | frz (xs : List D) | xd (fs : List (String × D)) | xda (b : Nat) (fs : List (String × D))
deriving Inhabited
abbrev G := List O
structure Exc where
  cls : String
  at_ : Option Nat
inductive R (α : Type) where
  | ok (a : α) (g : G) | exc (e : Exc) (g : G) | bad
def R.bind {α β : Type} (r : R α) (f : α → G → R β) : R β :=
  match r with | .ok a g => f a g | .exc e g => .exc e g | .bad => .bad
def ofO {α : Type} (o : Option (α × G)) : R α := match o with | some (a, g) => .ok a g | none => .bad
def ofP {α : Type} (o : Option α) (g : G) : R α := match o with | some a => .ok a g | none => .bad
abbrev Env := List (Option D)
abbrev M := Env → G → R D
abbrev T := Env → G → R Bool
abbrev A := Env → G → R (List D)
abbrev F := List D → G → R D
inductive SR where
  | next (ρ : Env) (g : G) | ret (d : D) (g : G) | brk (ρ : Env) (g : G) | cont (ρ : Env) (g : G) | exc (e : Exc) (ρ : Env) (g : G) | bad
abbrev S := Env → G → SR

abbrev LINE : Nat := 16777216

@[simp] theorem R.bind_ok {α β : Type} (a : α) (g : G) (f : α → G → R β) : (R.ok a g).bind f = f a g := rfl
@[simp] theorem R.bind_exc {α β : Type} (e : Exc) (g : G) (f : α → G → R β) : (R.exc e g).bind f = R.exc e g := rfl
@[simp] theorem R.bind_bad {α β : Type} (f : α → G → R β) : (R.bad).bind f = R.bad := rfl
@[simp] theorem ofO_some {α : Type} (a : α) (g : G) : ofO (some (a, g)) = R.ok a g := rfl
@[simp] theorem ofO_none {α : Type} : ofO (none : Option (α × G)) = R.bad := rfl
@[simp] theorem ofP_some {α : Type} (a : α) (g : G) : ofP (some a) g = R.ok a g := rfl
@[simp] theorem ofP_none {α : Type} (g : G) : ofP (none : Option α) g = R.bad := rfl

/-! ### expressions -/
def mVar (i : Nat) : M := fun ρ g => match ρ[i]? with | some (some d) => .ok d g | _ => .bad
def mC (d : D) : M := fun _ g => .ok d g
/-- an operation on values: pure; or one that makes an object -/
abbrev B2 := D → D → G → Option D
abbrev B1 := D → G → Option D
abbrev N2 := D → D → G → Option (D × G)
abbrev N1 := D → G → Option (D × G)
def mOp (f : N2) (a b : M) : M := fun ρ g => (a ρ g).bind fun x g1 => (b ρ g1).bind fun y g2 => ofO (f x y g2)
def mUn (f : N1) (a : M) : M := fun ρ g => (a ρ g).bind fun x g1 => ofO (f x g1)
def p2 (f : B2) : N2 := fun x y g => (f x y g).map fun d => (d, g)
def p1 (f : B1) : N1 := fun x g => (f x g).map fun d => (d, g)
def mNil : A := fun _ g => .ok [] g
def mCons (a : M) (as : A) : A := fun ρ g => (a ρ g).bind fun x g1 => (as ρ g1).bind fun xs g2 => .ok (x :: xs) g2
def mTup (as : A) : M := fun ρ g => (as ρ g).bind fun xs g1 => if xs.length ≤ LINE then .ok (.tup xs) g1 else .bad
def newL (xs : List D) (g : G) : D × G := (.ref g.length, g ++ [.lst xs])
def mLst (as : A) : M := fun ρ g => (as ρ g).bind fun xs g1 => if xs.length ≤ LINE then .ok (.ref g1.length) (g1 ++ [.lst xs]) else .bad
def mCall (f : F) (as : A) : M := fun ρ g => (as ρ g).bind fun xs g1 => f xs g1
def mIf (t : T) (a b : M) : M := fun ρ g => (t ρ g).bind fun c g1 => if c then a ρ g1 else b ρ g1
def asB (d : D) : Option Bool := match d with | .bl c => some c | _ => none
def mAnd (a b : M) : M := fun ρ g => (a ρ g).bind fun x g1 => (ofP (asB x) g1).bind fun c g2 => if c then b ρ g2 else .ok (.bl false) g2
def mOr (a b : M) : M := fun ρ g => (a ρ g).bind fun x g1 => (ofP (asB x) g1).bind fun c g2 => if c then .ok (.bl true) g2 else b ρ g2
def mNot (a : M) : M := fun ρ g => (a ρ g).bind fun x g1 => (ofP (asB x) g1).bind fun c g2 => .ok (.bl (!c)) g2
/-- a comparison of three: a op b op' c -/
def mChain (f f' : B2) (a b c : M) : M := fun ρ g => (a ρ g).bind fun x g1 => (b ρ g1).bind fun y g2 => (ofP (f x y g2) g2).bind fun z g3 =>
  (ofP (asB z) g3).bind fun k g4 => if k then (c ρ g4).bind fun w g5 => ofP (f' y w g5) g5 else .ok (.bl false) g4
/-! ### tests -/
def tVal (a : M) : T := fun ρ g => (a ρ g).bind fun x g1 => ofP (asB x) g1
def truth (d : D) (g : G) : Option Bool := match d with
  | .non => some false
  | .bl b => some b
  | .int i => some (i != 0)
  | .str s => if s.length ≤ LINE then some (s.length != 0) else none
  | .tup ds => some (!ds.isEmpty)
  | .adr _ => none
  | .ref r => match g[r]? with | some (.lst xs) => some (!xs.isEmpty) | some (.frz xs) => some (!xs.isEmpty) | _ => none
def tTru (a : M) : T := fun ρ g => (a ρ g).bind fun x g1 => ofP (truth x g1) g1
def tAnd (a b : T) : T := fun ρ g => (a ρ g).bind fun c g1 => if c then b ρ g1 else .ok false g1
def tOr (a b : T) : T := fun ρ g => (a ρ g).bind fun c g1 => if c then .ok true g1 else b ρ g1
def tNot (a : T) : T := fun ρ g => (a ρ g).bind fun c g1 => .ok (!c) g1
def tYes : T := fun _ g => .ok true g

/-! ### values as sequences, as data -/
def seqOf (d : D) (g : G) : Option (List D) := match d with
  | .tup ds => some ds
  | .ref r => match g[r]? with | some (.lst xs) => some xs | some (.frz xs) => some xs | _ => none
  | _ => none
def lstOf (d : D) (g : G) : Option (List D) := match d with
  | .ref r => match g[r]? with | some (.lst xs) => some xs | some (.frz xs) => some xs | _ => none
  | _ => none
/-- a list that may be written: its place and items -/
def mutOf (d : D) (g : G) : Option (Nat × List D) := match d with
  | .ref r => match g[r]? with | some (.lst xs) => some (r, xs) | _ => none
  | _ => none
/-- data: a value with its lists opened -/
inductive P where
  | non | bl (b : Bool) | int (i : Int) | str (s : List Char) | tup (ds : List P) | lst (ds : List P) | scr (ds : List P) | dct (ks vs : List P) | ins (c : String) (ns : List String) (vs : List P)
deriving Inhabited
def viewL (f : D → Option P) : List D → Option (List P)
  | [] => some []
  | d :: r => match f d, viewL f r with | some p, some ps => some (p :: ps) | _, _ => none
/-- nested to a depth of n -/
def view (g : G) : Nat → D → Option P
  | _, .non => some .non
  | _, .bl b => some (.bl b)
  | _, .int i => some (.int i)
  | _, .str s => some (.str s)
  | _, .adr _ => none
  | 0, .tup _ => none
  | 0, .ref _ => none
  | n + 1, .tup ds => (viewL (view g n) ds).map .tup
  | n + 1, .ref r => match lstOf (.ref r) g with | some xs => (viewL (view g n) xs).map .lst | none => none
def b2i (b : Bool) : Int := if b then 1 else 0
mutual
/-- Python's == of data -/
def P.eqv : P → P → Bool
  | .non, .non => true
  | .bl a, .bl b => a == b
  | .bl a, .int j => b2i a == j
  | .int i, .bl b => i == b2i b
  | .int i, .int j => i == j
  | .str x, .str y => x == y
  | .lst xs, .lst ys => P.eqvs xs ys
  | .lst xs, .scr ys => P.eqvs xs ys
  | .scr xs, .lst ys => P.eqvs xs ys
  | .scr xs, .scr ys => P.eqvs xs ys
  | .non, .dct _ _ => true
  | .non, .ins _ _ _ => true
  | .dct _ _, .non => true
  | .dct _ _, .dct _ _ => true
  | .dct _ _, .ins _ _ _ => true
  | .ins _ _ _, .non => true
  | .ins _ _ _, .dct _ _ => true
  | .ins _ _ _, .ins _ _ _ => true
  | .tup xs, .tup ys => P.eqvs xs ys
  | _, _ => false
def P.eqvs : List P → List P → Bool
  | [], [] => true
  | x :: xs, y :: ys => P.eqv x y && P.eqvs xs ys
  | _, _ => false
end
/-- == of values -/
def eqD (x y : D) (g : G) : Option Bool := match view g 60 x, view g 60 y with | some p, some q => some (P.eqv p q) | _, _ => none
/-- flat values: in by items -/
def flat : D → Bool
  | .non | .bl _ | .int _ | .str _ => true
  | _ => false
def eqF : D → D → Bool
  | .non, .non => true
  | .bl a, .bl b => a == b
  | .bl a, .int b => b2i a == b
  | .int a, .bl b => a == b2i b
  | .int a, .int b => a == b
  | .str a, .str b => a == b
  | _, _ => false

/-! ### operators -/
def short (i : Int) : Bool := decide (-18446744073709551616 < i ∧ i < 18446744073709551616)
def mulOk (i j : Int) : Bool := decide (i.natAbs.log2 + j.natAbs.log2 < 100000000) || (short i || short j)
def powOk (i j : Int) : Bool := decide (0 ≤ j ∧ ((i.natAbs.log2 + 1 : Nat) : Int) * j ≤ 134217728)
def oAdd : N2 := fun x y g => match x, y with
  | .int i, .int j => some (.int (i + j), g)
  | .str s, .str t => if s.length + t.length ≤ LINE then some (.str (s ++ t), g) else none
  | .tup ds, .tup es => if ds.length + es.length ≤ LINE then some (.tup (ds ++ es), g) else none
  | .ref a, .ref b => match mutOf (.ref a) g, mutOf (.ref b) g with
    | some (_, xs), some (_, ys) => if xs.length + ys.length ≤ LINE then some (newL (xs ++ ys) g) else none
    | _, _ => none
  | _, _ => none
def oSub : N2 := fun x y g => match x, y with | .int i, .int j => some (.int (i - j), g) | _, _ => none
def oMul : N2 := fun x y g => match x, y with
  | .int i, .int j => if mulOk i j then some (.int (i * j), g) else none
  | .str s, .int n => if 2 ≤ n ∧ n ≤ 1000 ∧ s.length ≤ 1000 then some (.str (List.replicate n.toNat s).flatten, g) else none
  | .tup ds, .int n => if 2 ≤ n ∧ n ≤ 1000 ∧ ds.length ≤ 1000 ∧ ds.length ≠ 0 then some (.tup (List.replicate n.toNat ds).flatten, g) else none
  | .ref a, .int n => match mutOf (.ref a) g with
    | some (_, xs) => if 0 ≤ n ∧ n ≤ 1000 ∧ xs.length * n.toNat ≤ LINE then some (newL (List.replicate n.toNat xs).flatten g) else none
    | none => none
  | _, _ => none
def oFdiv : N2 := fun x y g => match x, y with | .int i, .int j => if 0 < j ∧ j.natAbs.log2 < 9000 then some (.int (i / j), g) else none | _, _ => none
def oMod : N2 := fun x y g => match x, y with | .int i, .int j => if 0 < j then some (.int (i % j), g) else none | _, _ => none
def oPow : N2 := fun x y g => match x, y with | .int i, .int j => if powOk i j then some (.int (i ^ j.toNat), g) else none | _, _ => none
def oNeg : N1 := fun x g => match x with | .int i => some (.int (-i), g) | _ => none
def oEq : B2 := fun x y g => (eqD x y g).map .bl
def oNe : B2 := fun x y g => (eqD x y g).map fun b => .bl (!b)
def oLt : B2 := fun x y _ => match x, y with | .int i, .int j => some (.bl (decide (i < j))) | _, _ => none
def oLe : B2 := fun x y _ => match x, y with | .int i, .int j => some (.bl (decide (i ≤ j))) | _, _ => none
def oGt : B2 := fun x y _ => match x, y with | .int i, .int j => some (.bl (decide (j < i))) | _, _ => none
def oGe : B2 := fun x y _ => match x, y with | .int i, .int j => some (.bl (decide (j ≤ i))) | _, _ => none
def oIsN : B2 := fun x y _ => match x, y with | .non, .non => some (.bl true) | _, .non => some (.bl false) | _, _ => none
def oNotN : B2 := fun x y _ => match x, y with | .non, .non => some (.bl false) | _, .non => some (.bl true) | _, _ => none
/-- x in y -/
def inD (x y : D) (g : G) : Option Bool := match x, y with
  | .str [c], .str t => some (decide (c ∈ t))
  | x, .tup ds => if flat x && ds.all flat then some (ds.any fun y => eqF y x) else none
  | x, .ref r => match lstOf (.ref r) g with
    | some xs => match view g 60 x, viewL (view g 60) xs with
      | some p, some ps => some (ps.any fun q => P.eqv q p)
      | _, _ => none
    | none => none
  | _, _ => none
def oIn : B2 := fun x y g => (inD x y g).map .bl
def oNotIn : B2 := fun x y g => (inD x y g).map fun b => .bl (!b)
/-! ### places -/
def ix (n : Nat) (i : Int) : Option Nat := if 0 ≤ i then (if i < n then some i.toNat else none) else if -(n : Int) ≤ i then some (i + n).toNat else none
def atI {α : Type} (xs : List α) (i : Int) : Option α := (ix xs.length i).bind fun j => xs[j]?
def oIdx : B2 := fun x y g => match x, y with
  | .str s, .int i => if s.length ≤ LINE then (atI s i).map fun c => .str [c] else none
  | .tup ds, .int i => atI ds i
  | .ref r, .int i => (lstOf (.ref r) g).bind fun xs => atI xs i
  | _, _ => none
/-- a slice's bound as a place among n (d where it is left out) -/
def sIx (n d : Nat) : Option Int → Nat
  | none => d
  | some v => if v < 0 then (v + (n : Int)).toNat else min v.toNat n
def cut {α : Type} (xs : List α) (lo hi : Option Int) : List α := (xs.drop (sIx xs.length 0 lo)).take (sIx xs.length xs.length hi - sIx xs.length 0 lo)
def oSl (x : D) (lo hi : Option Int) (g : G) : Option (D × G) := match x with
  | .str s => if s.length ≤ LINE then some (.str (cut s lo hi), g) else none
  | .tup ds => some (.tup (cut ds lo hi), g)
  | .ref r => (lstOf (.ref r) g).map fun xs => newL (cut xs lo hi) g
  | _ => none
def asI (d : D) : Option Int := match d with | .int i => some i | _ => none
def mIx : Option M → Env → G → R (Option Int)
  | none => fun _ g => .ok none g
  | some m => fun ρ g => (m ρ g).bind fun d g1 => (ofP (asI d) g1).bind fun i g2 => .ok (some i) g2
def mSl (a : M) (lo hi : Option M) : M := fun ρ g => (a ρ g).bind fun x g1 => (mIx lo ρ g1).bind fun l g2 => (mIx hi ρ g2).bind fun h g3 => ofO (oSl x l h g3)
/-! ### built-ins -/
inductive Ty where | int | bool | str | tuple | list
deriving DecidableEq
def tyOf (d : D) (g : G) : Option (Option Ty) := match d with
  | .non => some none
  | .bl _ => some (some .bool)
  | .int _ => some (some .int)
  | .str _ => some (some .str)
  | .tup _ => some (some .tuple)
  | .adr _ => none
  | .ref r => match g[r]? with | some (.lst _) => some (some .list) | some (.frz _) => some (some .list) | _ => none
def isTy (t : Ty) : Option Ty → Bool
  | none => false
  | some u => u == t || (u == .bool && t == .int)
def oIsi (t : Ty) : B1 := fun x g => (tyOf x g).map fun u => .bl (isTy t u)
def oInt : B1 := fun x _ => match x with | .int i => some (.int i) | .bl b => some (.int (b2i b)) | _ => none
def lenD (d : D) (g : G) : Option Nat := match d with
  | .str s => if s.length ≤ LINE then some s.length else none
  | .tup ds => some ds.length
  | .ref r => (lstOf (.ref r) g).map (·.length)
  | _ => none
def oLen : B1 := fun x g => (lenD x g).map fun (n : Nat) => .int n
def oOrd : B1 := fun x _ => match x with | .str [c] => some (.int c.toNat) | _ => none
def oMin : B2 := fun x y _ => match x, y with | .int i, .int j => some (.int (if j < i then j else i)) | _, _ => none
def oMax : B2 := fun x y _ => match x, y with | .int i, .int j => some (.int (if j > i then j else i)) | _, _ => none
def allI : List D → Option (List Int)
  | [] => some []
  | .int i :: r => (allI r).map (i :: ·)
  | _ :: _ => none
def maxI : List Int → Option Int
  | [] => none
  | i :: r => match maxI r with | none => some i | some m => some (if i < m then m else i)
def minI : List Int → Option Int
  | [] => none
  | i :: r => match minI r with | none => some i | some m => some (if m < i then m else i)
def oMaxL : B1 := fun x g => ((seqOf x g).bind allI).bind fun is => (maxI is).map .int
def oMinL : B1 := fun x g => ((seqOf x g).bind allI).bind fun is => (minI is).map .int
def oTuple : N1 := fun x g => (seqOf x g).map fun xs => (.tup xs, g)
def oList : N1 := fun x g => (seqOf x g).map fun xs => newL xs g
/-! ### in order -/
def leS (a b : List Char) : Bool := decide (a.map Char.toNat ≤ b.map Char.toNat)
def sortS (xs : List (List Char)) : List (List Char) := xs.mergeSort leS
def sortI (xs : List Int) : List Int := xs.mergeSort fun a b => decide (a ≤ b)
/-- each text once -/
def ddS : List (List Char) → List (List Char)
  | [] => []
  | x :: r => if x ∈ r then ddS r else x :: ddS r
def allS : List D → Option (List (List Char))
  | [] => some []
  | .str s :: r => (allS r).map (s :: ·)
  | _ :: _ => none
/-- sorted(x), x a list of texts or of whole numbers -/
def oSorted : N1 := fun x g => (lstOf x g).bind fun xs => match allS xs with
  | some ss => some (newL ((sortS ss).map .str) g)
  | none => (allI xs).map fun is => newL ((sortI is).map .int) g
/-- sorted(set(x)), x a list or a tuple of texts -/
def oSortSet : N1 := fun x g => ((seqOf x g).bind allS).bind fun ss => if ss.length < 4000 then some (newL ((sortS (ddS ss)).map .str) g) else none
/-! ### methods -/
def oAppend : N2 := fun x y g => match mutOf x g with | some (r, xs) => if xs.length < LINE then some (.non, g.set r (.lst (xs ++ [y]))) else none | none => none
/-- x.append(y): x is a list as soon as it is reckoned -/
def mApp (o e : M) : M := fun ρ g => (o ρ g).bind fun x g1 => if (lstOf x g1).isSome then (e ρ g1).bind fun y g2 => ofO (oAppend x y g2) else .bad
/-! ### what is walked -/
structure Iter where
  get : Nat → G → Option (Option D)
  n : Nat
def itL (ds : List D) : Iter := ⟨fun i _ => some ds[i]?, ds.length⟩
def itR (r : Nat) (n : Nat) : Iter := ⟨fun i g => (lstOf (.ref r) g).map fun xs => xs[i]?, n⟩
abbrev I := Env → G → R Iter
/-- a list, a tuple, a text -/
def iterOf (x : D) (g : G) : Option Iter := match x with
  | .tup ds => some (itL ds)
  | .str s => some (itL (s.map fun c => .str [c]))
  | .ref r => (lstOf (.ref r) g).map fun xs => itR r xs.length
  | _ => none
def iAny (a : M) : I := fun ρ g => (a ρ g).bind fun x g1 => ofP (iterOf x g1) g1
theorem small_is : ∃ n : Int, n = 4611686018427387904 := ⟨_, rfl⟩
/-- 2^62, kept shut -/
noncomputable def SMALL : Int := Classical.choose small_is
theorem SMALL_is : SMALL = 4611686018427387904 := Classical.choose_spec small_is
def rng (lo : Int) (n : Nat) : List D := (List.range n).map fun (k : Nat) => .int (lo + k)
noncomputable def iRange1 (a : M) : I := fun ρ g => (a ρ g).bind fun x g1 => match x with
  | .int j => if -SMALL ≤ j ∧ j < SMALL then .ok (itL (rng 0 j.toNat)) g1 else .bad
  | _ => .bad
noncomputable def iRange2 (a b : M) : I := fun ρ g => (a ρ g).bind fun x g1 => (b ρ g1).bind fun y g2 => match x, y with
  | .int i, .int j => if (-SMALL ≤ i ∧ i < SMALL) ∧ -SMALL ≤ j ∧ j < SMALL then .ok (itL (rng i (j - i).toNat)) g2 else .bad
  | _, _ => .bad
/-- enumerate(x) -/
def itEn (it : Iter) : Iter := ⟨fun i g => (it.get i g).map fun o => o.map fun d => .tup [.int i, d], it.n⟩
def iEnum (a : M) : I := fun ρ g => (a ρ g).bind fun x g1 => match x with
  | .str _ => .bad
  | x => ofP ((iterOf x g1).map itEn) g1
/-! ### targets -/
abbrev Tg := D → Env → Option Env
def gName (i : Nat) : Tg := fun d ρ => some (ρ.set i (some d))
abbrev Tgs := List D → Env → Option Env
def gNil : Tgs := fun ds ρ => match ds with | [] => some ρ | _ => none
def gCons (t : Tg) (u : Tgs) : Tgs := fun ds ρ => match ds with | d :: r => (t d ρ).bind (u r) | [] => none
def gTup (t : Tgs) : Tg := fun d ρ => match d with | .tup ds => t ds ρ | _ => none
/-! ### comprehensions -/
def wipe (ρ : Env) : List Nat → Env
  | [] => ρ
  | v :: vs => (wipe ρ vs).set v none
/-- the loop: ρ has its own names wiped; D the new list's place -/
def lcGo (it : Nat → G → Option (Option D)) (t : Tg) (c : T) (e : M) (ρ : Env) (r : Nat) : Nat → Nat → G → R D
  | 0, _, _ => .bad
  | n + 1, i, g => match it i g with
    | none => .bad
    | some none => .ok (.ref r) g
    | some (some d) => match t d ρ with
      | none => .bad
      | some ρ2 => match c ρ2 g with
        | .ok true g3 => match e ρ2 g3 with
          | .ok y g4 => match mutOf (.ref r) g4 with
            | some (_, xs) => if xs.length < LINE then lcGo it t c e ρ r n (i + 1) (g4.set r (.lst (xs ++ [y]))) else .bad
            | none => .bad
          | _ => .bad
        | .ok false g3 => lcGo it t c e ρ r n (i + 1) g3
        | _ => .bad
def mLc (w : I) (t : Tg) (c : T) (e : M) (own : List Nat) : M := fun ρ g => (w ρ g).bind fun it g1 =>
  lcGo it.get t c e (wipe ρ own) g1.length (it.n + 1) 0 (g1 ++ [.lst []])
/-! ### statements -/
def sSeq (a b : S) : S := fun ρ g => match a ρ g with | .next ρ1 g1 => b ρ1 g1 | r => r
def sNil : S := fun ρ g => .next ρ g
def sBreak : S := fun ρ g => .brk ρ g
def sCont : S := fun ρ g => .cont ρ g
/-- from an expression: what it is on its way out -/
def onR {α : Type} (r : R α) (ρ : Env) (k : α → G → SR) : SR := match r with | .ok a g => k a g | .exc e g => .exc e ρ g | .bad => .bad
def sExpr (e : M) : S := fun ρ g => onR (e ρ g) ρ fun _ g1 => .next ρ g1
def sRet (e : M) : S := fun ρ g => onR (e ρ g) ρ fun d g1 => .ret d g1
def sRetN : S := fun _ g => .ret .non g
def sIf (t : T) (a b : S) : S := fun ρ g => onR (t ρ g) ρ fun c g1 => if c then a ρ g1 else b ρ g1
def sAsg (e : M) (t : Tg) : S := fun ρ g => onR (e ρ g) ρ fun d g1 => match t d ρ with | some ρ1 => .next ρ1 g1 | none => .bad
/-- o[i] = e -/
def sSetI (o i e : M) : S := fun ρ g => onR (e ρ g) ρ fun v g1 => onR (o ρ g1) ρ fun x g2 => onR (i ρ g2) ρ fun k g3 => match mutOf x g3, asI k with
  | some (r, xs), some k => match ix xs.length k with | some j => .next ρ (g3.set r (.lst (xs.set j v))) | none => .bad
  | _, _ => .bad
def forGo (it : Nat → G → Option (Option D)) (t : Tg) (b : S) : Nat → Nat → S
  | 0, _ => fun _ _ => .bad
  | n + 1, i => fun ρ g => match it i g with
    | none => .bad
    | some none => .next ρ g
    | some (some d) => match t d ρ with
      | none => .bad
      | some ρ1 => match b ρ1 g with
        | .next ρ2 g2 => forGo it t b n (i + 1) ρ2 g2
        | .cont ρ2 g2 => forGo it t b n (i + 1) ρ2 g2
        | .brk ρ2 g2 => .next ρ2 g2
        | r => r
def sFor (w : I) (t : Tg) (b : S) : S := fun ρ g => onR (w ρ g) ρ fun it g1 => forGo it.get t b (it.n + 1) 0 ρ g1
/-! ### exceptions -/
/-- raise C(..): its fields stand in a new object -/
def sRaise (c : String) (fs : List String) (as : A) : S := fun ρ g => onR (as ρ g) ρ fun xs g1 => if xs.length = fs.length then .exc ⟨c, some g1.length⟩ ρ (g1 ++ [.xd (fs.zip xs)]) else .bad
/-- raise C(), C without fields -/
def sRaise0 (c : String) : S := fun ρ g => .exc ⟨c, none⟩ ρ g
/-- the exception's fields, told where they stand; told no more -/
def pinX (r : Option Nat) (b : Nat) (g : G) : G := match r with
  | some r => match g[r]? with | some (.xd fs) => g.set r (.xda b fs) | _ => g
  | none => g
def unpinX (r : Option Nat) (g : G) : G := match r with
  | some r => match g[r]? with | some (.xda _ fs) => g.set r (.xd fs) | _ => g
  | none => g
/-- slot i is emptied, nothing is told of places -/
def SR.clean (i : Nat) (q : Option Nat) : SR → SR
  | .next ρ g => .next (ρ.set i none) (unpinX q g)
  | .brk ρ g => .brk (ρ.set i none) (unpinX q g)
  | .cont ρ g => .cont (ρ.set i none) (unpinX q g)
  | .ret d g => .ret d (unpinX q g)
  | .exc _ _ _ => .bad
  | .bad => .bad
open Classical in
/-- what is the same wherever the exception stands -/
noncomputable def same_for (f : Nat → Nat → SR) : SR := if h : ∃ r, ∀ a b, f a b = r then h.choose else .bad
theorem same_for_eq {f : Nat → Nat → SR} {r : SR} (h : ∀ a b, f a b = r) : same_for f = r := by
  have e : ∃ r, ∀ a b, f a b = r := ⟨r, h⟩
  unfold same_for
  rw [dif_pos e]
  exact (e.choose_spec 0 0).symm.trans (h 0 0)
/-- try: body, except .. as x: suite; slot i is x's -/
noncomputable def sTryAs (body : S) (cl : String → Option Bool) (i : Nat) (suite : Exc → Nat → Nat → S) : S := fun ρ g => match body ρ g with
  | .exc e ρ1 g1 => match cl e.cls with
    | some true => same_for fun a b => (suite e a b (ρ1.set i (some (.adr a))) (pinX e.at_ b g1)).clean i e.at_
    | some false => .exc e ρ1 g1
    | none => .bad
  | r => r
/-- try: body, except ..: suite -/
def sTry (body : S) (cl : String → Option Bool) (suite : S) : S := fun ρ g => match body ρ g with
  | .exc e ρ1 g1 => match cl e.cls with
    | some true => match suite ρ1 g1 with | .exc _ _ _ => .bad | r => r
    | some false => .exc e ρ1 g1
    | none => .bad
  | r => r
/-- a table of classes -/
def clT (tab : List (String × Bool)) : String → Option Bool := fun c => tab.lookup c
/-- isinstance(x, C) of the exception in hand (at a, in slot i; its fields at b) -/
def mIsE (cl : String → Option Bool) (i : Nat) (e : Exc) (a b : Nat) : M := fun ρ g => match ρ[i]? with
  | some (some (.adr a')) => if a' = a then match e.at_ with
    | some r => match g[r]? with | some (.xda b' _) => if b' = b then ofP ((cl e.cls).map .bl) g else .bad | _ => .bad
    | none => ofP ((cl e.cls).map .bl) g else .bad
  | _ => .bad
/-- x.f of the exception in hand -/
def mFldE (f : String) (i : Nat) (e : Exc) (a b : Nat) : M := fun ρ g => match ρ[i]? with
  | some (some (.adr a')) => if a' = a then match e.at_ with
    | some r => match g[r]? with | some (.xda b' fs) => if b' = b then ofP (fs.lookup f) g else .bad | _ => .bad
    | none => .bad else .bad
  | _ => .bad
/-- .. for classes cs -/
def mFldC (cs : List String) (f : String) (i : Nat) (e : Exc) (a b : Nat) : M := fun ρ g => if cs.contains e.cls then mFldE f i e a b ρ g else .bad
/-! ### defs -/
def fn (n m : Nat) (b : S) : F := fun ds g => if ds.length = n then match b (ds.map some ++ List.replicate (m - n) none) g with
  | .next _ g1 => .ok .non g1
  | .ret d g1 => .ok d g1
  | .exc e _ g1 => .exc e g1
  | _ => .bad else .bad
end Py
end

section
set_option autoImplicit false
set_option linter.all false
/-! The order of texts; sorted lists are unique. -/
namespace Py
theorem nat_inj : ∀ {s t : List Char}, s.map Char.toNat = t.map Char.toNat → s = t
  | [], [], _ => rfl
  | [], _ :: _, h => by simp at h
  | _ :: _, [], h => by simp at h
  | c :: s, d :: t, h => by
    simp only [List.map_cons, List.cons.injEq] at h
    rw [nat_inj h.2, Char.toNat_inj.mp h.1]
/-! ### the order -/
theorem leS_trans (a b c : List Char) (h1 : leS a b = true) (h2 : leS b c = true) : leS a c = true := by
  simp only [leS, decide_eq_true_eq] at *
  exact List.le_trans h1 h2
theorem leS_total (a b : List Char) : (leS a b || leS b a) = true := by
  simp only [leS, Bool.or_eq_true, decide_eq_true_eq]
  exact List.le_total _ _
theorem leS_anti {a b : List Char} (h1 : leS a b = true) (h2 : leS b a = true) : a = b := by
  simp only [leS, decide_eq_true_eq] at *
  exact nat_inj (List.le_antisymm h1 h2)
theorem sortS_perm (xs : List (List Char)) : (sortS xs).Perm xs := List.mergeSort_perm _ _
theorem sortS_ord (xs : List (List Char)) : (sortS xs).Pairwise fun a b => leS a b = true := List.pairwise_mergeSort leS_trans leS_total xs
theorem sortS_uniq {xs ys : List (List Char)} (p : ys.Perm xs) (o : ys.Pairwise fun a b => leS a b = true) : ys = sortS xs :=
  List.Perm.eq_of_pairwise (fun _ _ _ _ h1 h2 => leS_anti h1 h2) o (sortS_ord xs) (p.trans (sortS_perm xs).symm)
theorem sortI_perm (xs : List Int) : (sortI xs).Perm xs := List.mergeSort_perm _ _
theorem sortI_ord (xs : List Int) : (sortI xs).Pairwise (· ≤ ·) := (List.pairwise_mergeSort (le := fun a b : Int => decide (a ≤ b)) (fun a b c h1 h2 => by simp at *; omega) (fun a b => by simp; omega) xs).imp fun h => by simpa using h
theorem sortI_uniq {xs ys : List Int} (p : ys.Perm xs) (o : ys.Pairwise (· ≤ ·)) : ys = sortI xs :=
  List.Perm.eq_of_pairwise (fun _ _ _ _ h1 h2 => Int.le_antisymm h1 h2) o (sortI_ord xs) (p.trans (sortI_perm xs).symm)
theorem dd_mem {x : List Char} : ∀ {xs : List (List Char)}, x ∈ ddS xs ↔ x ∈ xs
  | [] => Iff.rfl
  | y :: r => by
    unfold ddS
    by_cases h : y ∈ r
    · rw [if_pos h, dd_mem, List.mem_cons]
      exact ⟨.inr, fun z => z.elim (fun e => e ▸ h) id⟩
    · rw [if_neg h, List.mem_cons, List.mem_cons, dd_mem]
theorem dd_nodup : ∀ xs : List (List Char), (ddS xs).Nodup
  | [] => List.nodup_nil
  | y :: r => by
    unfold ddS
    by_cases h : y ∈ r
    · rw [if_pos h]; exact dd_nodup r
    · rw [if_neg h]; exact List.nodup_cons.mpr ⟨fun z => h (dd_mem.mp z), dd_nodup r⟩
theorem sortS_dd {xs ys : List (List Char)} (nd : ys.Nodup) (m : ∀ x, x ∈ ys ↔ x ∈ xs) (o : ys.Pairwise fun a b => leS a b = true) : ys = sortS (ddS xs) :=
  sortS_uniq ((List.perm_ext_iff_of_nodup nd (dd_nodup xs)).mpr fun x => (m x).trans dd_mem.symm) o
end Py
end

section
set_option Elab.async false
set_option linter.all false
set_option maxRecDepth 100000
set_option autoImplicit false
/-! The small semantics over the hand layer: what a data tree is in the abstract heap, what a store is. -/
namespace Py
open PySem L2

def sS (s : List Char) : Str := ⟨(s.map Char.toNat).toArray⟩
mutual
inductive Rep (K : PySem.W.Frag) (H : Hp) (ι : List Addr) : D → V → Prop
  | non : Rep K H ι .non .non
  | bl (b : Bool) : Rep K H ι (.bl b) (.bl b)
  | int (i : Int) : Rep K H ι (.int i) (.int i)
  | str (s : List Char) : Rep K H ι (.str s) (.str (sS s))
  | tup {ds : List D} {vs : List V} {a : Addr} (h : SqT K H a vs) (r : Reps K H ι ds vs) : Rep K H ι (.tup ds) (.ref a)
  | ref {r : Nat} {a : Addr} (h : ι[r]? = some a) : Rep K H ι (.ref r) (.ref a)
  | adr (a : Nat) : Rep K H ι (.adr a) (.ref a)
inductive Reps (K : PySem.W.Frag) (H : Hp) (ι : List Addr) : List D → List V → Prop
  | nil : Reps K H ι [] []
  | cons {d : D} {v : V} {ds : List D} {vs : List V} (h : Rep K H ι d v) (t : Reps K H ι ds vs) : Reps K H ι (d :: ds) (v :: vs)
end
/-- a list that is only read -/
def FrzL (K : PySem.W.Frag) (H : Hp) (a : Addr) (xs : List V) : Prop :=
  (∃ o, H a = some (.frz o (.lst xs))) ∨
    (∃ (o : Obj) (its : Array Value) (n : Nat), K.lookup a = some o ∧ o.cls = .type "list" ∧ o.dict = none ∧ o.data = .seq its n ∧ its.size ≤ sizeLine ∧ Vals xs its.toList)
theorem FrzL.seq {K : PySem.W.Frag} {H : Hp} {a : Addr} {xs : List V} (h : FrzL K H a xs) : SqL K H a xs := by
  rcases h with ⟨o, h⟩ | h
  · exact .inl (.inr ⟨o, h⟩)
  · exact .inr h
/-- what object stands at a -/
def OR (K : PySem.W.Frag) (H : Hp) (ι : List Addr) : O → Addr → Prop
  | .lst xs, a => ∃ vs, H a = some (.lst vs) ∧ Reps K H ι xs vs
  | .frz xs, a => ∃ vs, FrzL K H a vs ∧ Reps K H ι xs vs
  | .xd fs, a => ∃ vs, H a = some (.xd ((fs.map fun f => Str.ofString f.1).zip vs)) ∧ Reps K H ι (fs.map (·.2)) vs
  | .xda b fs, a => a = b ∧ ∃ vs, H a = some (.xd ((fs.map fun f => Str.ofString f.1).zip vs)) ∧ Reps K H ι (fs.map (·.2)) vs
structure SR_ (K : PySem.W.Frag) (H : Hp) (ι : List Addr) (g : G) : Prop where
  len : ι.length = g.length
  obj : ∀ (r : Nat) (o : O) (a : Addr), g[r]? = some o → ι[r]? = some a → OR K H ι o a
  inj : ∀ (r r' : Nat) (a : Addr) (xs xs' : List D), ι[r]? = some a → ι[r']? = some a → g[r]? = some (.lst xs) → g[r']? = some (.lst xs') → r = r'
structure Ext (K : PySem.W.Frag) (H H' : Hp) (ι ι' : List Addr) : Prop where
  pre : ∀ (r : Nat) (a : Addr), ι[r]? = some a → ι'[r]? = some a
  tup : ∀ (a : Addr) (vs : List V), SqT K H a vs → SqT K H' a vs
section
variable {K : PySem.W.Frag} {H H' H2 : Hp} {ι ι' ι2 : List Addr}
theorem Ext.refl : Ext K H H ι ι := ⟨fun _ _ h => h, fun _ _ h => h⟩
theorem Ext.trans (x : Ext K H H' ι ι') (y : Ext K H' H2 ι' ι2) : Ext K H H2 ι ι2 := ⟨fun r a h => y.pre r a (x.pre r a h), fun a vs h => y.tup a vs (x.tup a vs h)⟩
mutual
theorem Rep.ext (x : Ext K H H' ι ι') : ∀ {d : D} {v : V}, Rep K H ι d v → Rep K H' ι' d v
  | _, _, .non => .non
  | _, _, .bl b => .bl b
  | _, _, .int i => .int i
  | _, _, .str s => .str s
  | _, _, .tup h r => .tup (x.tup _ _ h) (Reps.ext x r)
  | _, _, .ref h => .ref (x.pre _ _ h)
  | _, _, .adr a => .adr a
theorem Reps.ext (x : Ext K H H' ι ι') : ∀ {ds : List D} {vs : List V}, Reps K H ι ds vs → Reps K H' ι' ds vs
  | _, _, .nil => .nil
  | _, _, .cons h t => .cons (Rep.ext x h) (Reps.ext x t)
end
theorem Reps.len : ∀ {ds : List D} {vs : List V}, Reps K H ι ds vs → ds.length = vs.length
  | _, _, .nil => rfl
  | _, _, .cons _ t => by simp [Reps.len t]
theorem Reps.get : ∀ {ds : List D} {vs : List V} {i : Nat} {d : D}, Reps K H ι ds vs → ds[i]? = some d → ∃ v, vs[i]? = some v ∧ Rep K H ι d v
  | _, _, _, _, .nil, e => by simp at e
  | _, _, 0, _, .cons h _, e => by simp at e; subst e; exact ⟨_, rfl, h⟩
  | _, _, i + 1, d, .cons _ t, e => by
    obtain ⟨v, h1, h2⟩ := Reps.get (i := i) t (by simpa using e)
    exact ⟨v, by simpa using h1, h2⟩
theorem Reps.get' : ∀ {ds : List D} {vs : List V} {i : Nat} {v : V}, Reps K H ι ds vs → vs[i]? = some v → ∃ d, ds[i]? = some d ∧ Rep K H ι d v
  | _, _, _, _, .nil, e => by simp at e
  | _, _, 0, _, .cons h _, e => by simp at e; subst e; exact ⟨_, rfl, h⟩
  | _, _, i + 1, d, .cons _ t, e => by
    obtain ⟨v, h1, h2⟩ := Reps.get' (i := i) t (by simpa using e)
    exact ⟨v, by simpa using h1, h2⟩
theorem Reps.append : ∀ {ds es : List D} {vs ws : List V}, Reps K H ι ds vs → Reps K H ι es ws → Reps K H ι (ds ++ es) (vs ++ ws)
  | _, _, _, _, .nil, s => s
  | _, _, _, _, .cons h t, s => .cons h (Reps.append t s)
theorem Reps.take : ∀ {ds : List D} {vs : List V} (n : Nat), Reps K H ι ds vs → Reps K H ι (ds.take n) (vs.take n)
  | _, _, 0, _ => .nil
  | _, _, _ + 1, .nil => .nil
  | _, _, n + 1, .cons h t => .cons h (Reps.take n t)
theorem Reps.drop : ∀ {ds : List D} {vs : List V} (n : Nat), Reps K H ι ds vs → Reps K H ι (ds.drop n) (vs.drop n)
  | _, _, 0, r => r
  | _, _, _ + 1, .nil => .nil
  | _, _, n + 1, .cons _ t => Reps.drop n t
theorem Reps.set {d : D} {v : V} (r : Rep K H ι d v) : ∀ {ds : List D} {vs : List V} (n : Nat), Reps K H ι ds vs → Reps K H ι (ds.set n d) (vs.set n v)
  | _, _, _, .nil => .nil
  | _, _, 0, .cons _ t => .cons r t
  | _, _, n + 1, .cons h t => .cons h (Reps.set r n t)
theorem Reps.rev : ∀ {ds : List D} {vs : List V}, Reps K H ι ds vs → Reps K H ι ds.reverse vs.reverse
  | _, _, .nil => .nil
  | _, _, .cons h t => by rw [List.reverse_cons, List.reverse_cons]; exact Reps.append (Reps.rev t) (.cons h .nil)
theorem Reps.ints : ∀ {is : List Int}, Reps K H ι (is.map D.int) (is.map V.int)
  | [] => .nil
  | i :: r => .cons (.int i) (Reps.ints (is := r))
theorem Reps.strs : ∀ {is : List (List Char)}, Reps K H ι (is.map D.str) (is.map fun s => V.str (sS s))
  | [] => .nil
  | i :: r => .cons (.str i) (Reps.strs (is := r))
/-- the heap grows by a new object -/
theorem SqT.new {a p : Addr} {vs : List V} {o : HO} (hp : H p = none) (h : SqT K H a vs) : SqT K (upd H p o) a vs := by
  rcases h with (h | ⟨u, h⟩) | h
  · exact .inl (.inl (by rw [upd_ne (ne_of_none h hp)]; exact h))
  · exact .inl (.inr ⟨u, by rw [upd_ne (ne_of_none h hp)]; exact h⟩)
  · exact .inr h
theorem SqT.wr {a p : Addr} {vs : List V} {o : HO} {xs : List V} (hp : H p = some (.lst xs)) (h : SqT K H a vs) : SqT K (upd H p o) a vs := by
  rcases h with (h | ⟨u, h⟩) | h
  · exact .inl (.inl (by rw [upd_ne (ne_of h hp (by intro z; cases z))]; exact h))
  · exact .inl (.inr ⟨u, by rw [upd_ne (ne_of h hp (by intro z; cases z))]; exact h⟩)
  · exact .inr h
theorem Ext.new {p : Addr} {o : HO} (hp : H p = none) : Ext K H (upd H p o) ι ι := ⟨fun _ _ h => h, fun _ _ h => SqT.new hp h⟩
theorem Ext.wr {p : Addr} {o : HO} {xs : List V} (hp : H p = some (.lst xs)) : Ext K H (upd H p o) ι ι := ⟨fun _ _ h => h, fun _ _ h => SqT.wr hp h⟩
theorem Ext.snoc {p : Addr} : Ext K H H ι (ι ++ [p]) := ⟨fun r a h => by
  rw [List.getElem?_append_left (by exact (List.getElem?_eq_some_iff.mp h).1)]; exact h, fun _ _ h => h⟩
theorem FrzL.new {a p : Addr} {vs : List V} (hp : H p = none) (h : FrzL K H a vs) {o : HO} : FrzL K (upd H p o) a vs := by
  rcases h with ⟨u, h⟩ | h
  · exact .inl ⟨u, by rw [upd_ne (ne_of_none h hp)]; exact h⟩
  · exact .inr h
theorem FrzL.wr {a p : Addr} {vs xs : List V} (hp : H p = some (.lst xs)) (h : FrzL K H a vs) {o : HO} : FrzL K (upd H p o) a vs := by
  rcases h with ⟨u, h⟩ | h
  · exact .inl ⟨u, by rw [upd_ne (ne_of h hp (by intro z; cases z))]; exact h⟩
  · exact .inr h
theorem OR.new {a p : Addr} {o : HO} {x : O} (hp : H p = none) (h : OR K H ι x a) : OR K (upd H p o) ι x a := by
  cases x with
  | lst xs => obtain ⟨vs, h, r⟩ := h; exact ⟨vs, by rw [upd_ne (ne_of_none h hp)]; exact h, r.ext (Ext.new hp)⟩
  | frz xs => obtain ⟨vs, h, r⟩ := h; exact ⟨vs, h.new hp, r.ext (Ext.new hp)⟩
  | xd fs => obtain ⟨vs, h, r⟩ := h; exact ⟨vs, by rw [upd_ne (ne_of_none h hp)]; exact h, r.ext (Ext.new hp)⟩
  | xda b fs => obtain ⟨z, vs, h, r⟩ := h; exact ⟨z, vs, by rw [upd_ne (ne_of_none h hp)]; exact h, r.ext (Ext.new hp)⟩
theorem OR.wr {a p : Addr} {xs : List V} {o : HO} {x : O} (hp : H p = some (.lst xs)) (hne : a ≠ p ∨ ¬ ∃ ys, x = .lst ys) (h : OR K H ι x a) : OR K (upd H p o) ι x a := by
  cases x with
  | lst xs =>
    obtain ⟨vs, h, r⟩ := h
    rcases hne with hne | z
    · exact ⟨vs, by rw [upd_ne hne]; exact h, r.ext (Ext.wr hp)⟩
    · exact absurd ⟨_, rfl⟩ z
  | frz xs => obtain ⟨vs, h, r⟩ := h; exact ⟨vs, h.wr hp, r.ext (Ext.wr hp)⟩
  | xd fs => obtain ⟨vs, h, r⟩ := h; exact ⟨vs, by rw [upd_ne (ne_of h hp (by intro z; cases z))]; exact h, r.ext (Ext.wr hp)⟩
  | xda b fs => obtain ⟨z, vs, h, r⟩ := h; exact ⟨z, vs, by rw [upd_ne (ne_of h hp (by intro z; cases z))]; exact h, r.ext (Ext.wr hp)⟩
theorem OR.ext {x : O} {a : Addr} (h : OR K H ι x a) (e : Ext K H H ι ι') : OR K H ι' x a := by
  cases x with
  | lst xs => obtain ⟨vs, h, r⟩ := h; exact ⟨vs, h, r.ext e⟩
  | frz xs => obtain ⟨vs, h, r⟩ := h; exact ⟨vs, h, r.ext e⟩
  | xd fs => obtain ⟨vs, h, r⟩ := h; exact ⟨vs, h, r.ext e⟩
  | xda b fs => obtain ⟨z, vs, h, r⟩ := h; exact ⟨z, vs, h, r.ext e⟩
variable {g : G}
/-- an object that the store does not know -/
theorem SR_.new {p : Addr} {o : HO} (s : SR_ K H ι g) (hp : H p = none) : SR_ K (upd H p o) ι g := ⟨s.len, fun r x a h1 h2 => (s.obj r x a h1 h2).new hp, s.inj⟩
/-- a new list -/
theorem SR_.newL {p : Addr} {ds : List D} {vs : List V} (s : SR_ K H ι g) (hp : H p = none) (r : Reps K H ι ds vs) : SR_ K (upd H p (.lst vs)) (ι ++ [p]) (g ++ [.lst ds]) := by
  have e1 : Ext K (upd H p (.lst vs)) (upd H p (.lst vs)) ι (ι ++ [p]) := Ext.snoc
  have isP : ∀ (r : Nat) (a : Addr) (xs : List D), ι[r]? = some a → g[r]? = some (.lst xs) → a ≠ p := fun r a xs h1 h2 z => by
    obtain ⟨vs, h, _⟩ := s.obj r _ a h2 h1
    rw [z, hp] at h; cases h
  refine ⟨by simp [s.len], fun q x a h1 h2 => ?_, fun q q' a xs xs' h1 h2 h3 h4 => ?_⟩
  · by_cases hq : q < g.length
    · rw [List.getElem?_append_left hq] at h1
      rw [List.getElem?_append_left (by rw [s.len]; exact hq)] at h2
      exact ((s.obj q x a h1 h2).new hp).ext e1
    · have hl := (List.getElem?_eq_some_iff.mp h1).1
      have e : q = g.length := by simp at hl; omega
      subst e
      rw [List.getElem?_append_right (Nat.le_refl _), Nat.sub_self] at h1
      rw [← s.len, List.getElem?_append_right (Nat.le_refl _), Nat.sub_self] at h2
      simp at h1 h2
      subst h1 h2
      exact ⟨vs, upd_same, (r.ext (Ext.new hp)).ext e1⟩
  · have low : ∀ (q : Nat) (xs : List D), (ι ++ [p])[q]? = some a → (g ++ [O.lst ds])[q]? = some (.lst xs) → (ι[q]? = some a ∧ g[q]? = some (.lst xs)) ∨ (q = g.length ∧ a = p) := fun q xs h1 h3 => by
      by_cases hq : q < g.length
      · rw [List.getElem?_append_left hq] at h3
        rw [List.getElem?_append_left (by rw [s.len]; exact hq)] at h1
        exact .inl ⟨h1, h3⟩
      · have hl := (List.getElem?_eq_some_iff.mp h3).1
        have e : q = g.length := by simp at hl; omega
        subst e
        rw [← s.len, List.getElem?_append_right (Nat.le_refl _), Nat.sub_self] at h1
        simp at h1
        exact .inr ⟨rfl, h1.symm⟩
    rcases low q xs h1 h3 with ⟨a1, a3⟩ | ⟨e1, e2⟩
    · rcases low q' xs' h2 h4 with ⟨b1, b3⟩ | ⟨e1, e2⟩
      · exact s.inj q q' a xs xs' a1 b1 a3 b3
      · exact absurd e2 (isP q a xs a1 a3)
    · rcases low q' xs' h2 h4 with ⟨b1, b3⟩ | ⟨e1', e2'⟩
      · exact absurd e2 (isP q' a xs' b1 b3)
      · rw [e1, e1']
/-- a new exception's fields -/
theorem SR_.newX {p : Addr} {fs : List (String × D)} {vs : List V} (s : SR_ K H ι g) (hp : H p = none) (r : Reps K H ι (fs.map (·.2)) vs) : SR_ K (upd H p (.xd ((fs.map fun f => Str.ofString f.1).zip vs))) (ι ++ [p]) (g ++ [.xd fs]) := by
  have e1 : Ext K (upd H p (.xd ((fs.map fun f => Str.ofString f.1).zip vs))) (upd H p (.xd ((fs.map fun f => Str.ofString f.1).zip vs))) ι (ι ++ [p]) := Ext.snoc
  have isP : ∀ (r : Nat) (a : Addr) (xs : List D), ι[r]? = some a → g[r]? = some (.lst xs) → a ≠ p := fun r a xs h1 h2 z => by
    obtain ⟨vs, h, _⟩ := s.obj r _ a h2 h1
    rw [z, hp] at h; cases h
  refine ⟨by simp [s.len], fun q x a h1 h2 => ?_, fun q q' a xs xs' h1 h2 h3 h4 => ?_⟩
  · by_cases hq : q < g.length
    · rw [List.getElem?_append_left hq] at h1
      rw [List.getElem?_append_left (by rw [s.len]; exact hq)] at h2
      exact ((s.obj q x a h1 h2).new hp).ext e1
    · have hl := (List.getElem?_eq_some_iff.mp h1).1
      have e : q = g.length := by simp at hl; omega
      subst e
      rw [List.getElem?_append_right (Nat.le_refl _), Nat.sub_self] at h1
      rw [← s.len, List.getElem?_append_right (Nat.le_refl _), Nat.sub_self] at h2
      simp at h1 h2
      subst h1 h2
      exact ⟨vs, upd_same, (r.ext (Ext.new hp)).ext e1⟩
  · have low : ∀ (q : Nat) (xs : List D), (ι ++ [p])[q]? = some a → (g ++ [O.xd fs])[q]? = some (.lst xs) → (ι[q]? = some a ∧ g[q]? = some (.lst xs)) ∨ (q = g.length ∧ a = p) := fun q xs h1 h3 => by
      by_cases hq : q < g.length
      · rw [List.getElem?_append_left hq] at h3
        rw [List.getElem?_append_left (by rw [s.len]; exact hq)] at h1
        exact .inl ⟨h1, h3⟩
      · have hl := (List.getElem?_eq_some_iff.mp h3).1
        have e : q = g.length := by simp at hl; omega
        subst e
        rw [List.getElem?_append_right (Nat.le_refl _), Nat.sub_self] at h3
        cases h3
    rcases low q xs h1 h3 with ⟨a1, a3⟩ | ⟨e1, e2⟩
    · rcases low q' xs' h2 h4 with ⟨b1, b3⟩ | ⟨e1, e2⟩
      · exact s.inj q q' a xs xs' a1 b1 a3 b3
      · exact absurd e2 (isP q a xs a1 a3)
    · rcases low q' xs' h2 h4 with ⟨b1, b3⟩ | ⟨e1', e2'⟩
      · exact absurd e2 (isP q' a xs' b1 b3)
      · rw [e1, e1']
/-- a list is written -/
theorem SR_.wrL {l : Nat} {p : Addr} {xs ds : List D} {ws vs : List V} (s : SR_ K H ι g) (hl : g[l]? = some (.lst xs)) (hp : ι[l]? = some p) (r : Reps K H ι ds vs) (hH : H p = some (.lst ws)) : SR_ K (upd H p (.lst vs)) ι (g.set l (.lst ds)) := by
  have hlen : l < g.length := (List.getElem?_eq_some_iff.mp hl).1
  refine ⟨by simp [s.len], fun q x a h1 h2 => ?_, fun q q' a ys ys' h1 h2 h3 h4 => ?_⟩
  · by_cases hq : q = l
    · subst hq
      rw [List.getElem?_set_self hlen] at h1
      rw [hp] at h2
      cases h1; cases h2
      exact ⟨vs, upd_same, r.ext (Ext.wr hH)⟩
    · rw [List.getElem?_set_ne (Ne.symm hq)] at h1
      refine (s.obj q x a h1 h2).wr hH ?_
      cases x with
      | lst ys =>
        left
        intro z
        subst z
        exact hq (s.inj q l a ys xs h2 hp h1 hl)
      | frz ys => exact .inr fun ⟨_, z⟩ => by cases z
      | xd ys => exact .inr fun ⟨_, z⟩ => by cases z
      | xda b ys => exact .inr fun ⟨_, z⟩ => by cases z
  · have low : ∀ (q : Nat) (ys : List D), (g.set l (.lst ds))[q]? = some (.lst ys) → ∃ zs, g[q]? = some (.lst zs) := fun q ys h => by
      by_cases hq : q = l
      · subst hq; exact ⟨_, hl⟩
      · rw [List.getElem?_set_ne (Ne.symm hq)] at h; exact ⟨_, h⟩
    obtain ⟨zs, k1⟩ := low q ys h3
    obtain ⟨zs', k2⟩ := low q' ys' h4
    exact s.inj q q' a zs zs' h1 h2 k1 k2
/-- what stands at a list's reference -/
theorem SR_.lst {r : Nat} {a : Addr} {xs : List D} (s : SR_ K H ι g) (h : ι[r]? = some a) (hg : g[r]? = some (.lst xs)) : ∃ vs, H a = some (.lst vs) ∧ Reps K H ι xs vs := s.obj r _ a hg h
theorem SR_.frz {r : Nat} {a : Addr} {xs : List D} (s : SR_ K H ι g) (h : ι[r]? = some a) (hg : g[r]? = some (.frz xs)) : ∃ vs, FrzL K H a vs ∧ Reps K H ι xs vs := s.obj r _ a hg h
theorem SR_.xd {r : Nat} {a : Addr} {fs : List (String × D)} (s : SR_ K H ι g) (h : ι[r]? = some a) (hg : g[r]? = some (.xd fs)) : ∃ vs, H a = some (.xd ((fs.map fun f => Str.ofString f.1).zip vs)) ∧ Reps K H ι (fs.map (·.2)) vs := s.obj r _ a hg h
/-- the exception's fields, told where they stand -/
theorem SR_.pin {r : Option Nat} {b : Nat} (s : SR_ K H ι g) (h : ∀ q, r = some q → ι[q]? = some b) : SR_ K H ι (pinX r b g) := by
  cases r with
  | none => exact s
  | some r =>
    unfold pinX
    dsimp only
    split
    · rename_i fs hg
      have hl := (List.getElem?_eq_some_iff.mp hg).1
      have low : ∀ (q : Nat) (ys : List D), (g.set r (.xda b fs))[q]? = some (.lst ys) → g[q]? = some (.lst ys) := fun q ys z => by
        by_cases hq : q = r
        · subst hq; rw [List.getElem?_set_self hl] at z; cases z
        · rw [List.getElem?_set_ne (Ne.symm hq)] at z; exact z
      refine ⟨by simp [s.len], fun q x a h1 h2 => ?_, fun q q' a ys ys' h1 h2 h3 h4 => s.inj q q' a ys ys' h1 h2 (low q ys h3) (low q' ys' h4)⟩
      by_cases hq : q = r
      · subst hq
        rw [List.getElem?_set_self hl] at h1
        cases h1
        rw [h q rfl] at h2
        cases h2
        exact ⟨rfl, s.obj q _ _ hg (h q rfl)⟩
      · rw [List.getElem?_set_ne (Ne.symm hq)] at h1
        exact s.obj q x a h1 h2
    · exact s
theorem SR_.unpin (s : SR_ K H ι g) (r : Option Nat) : SR_ K H ι (unpinX r g) := by
  cases r with
  | none => exact s
  | some r =>
    unfold unpinX
    dsimp only
    split
    · rename_i b fs hg
      have hl := (List.getElem?_eq_some_iff.mp hg).1
      have low : ∀ (q : Nat) (ys : List D), (g.set r (.xd fs))[q]? = some (.lst ys) → g[q]? = some (.lst ys) := fun q ys z => by
        by_cases hq : q = r
        · subst hq; rw [List.getElem?_set_self hl] at z; cases z
        · rw [List.getElem?_set_ne (Ne.symm hq)] at z; exact z
      refine ⟨by simp [s.len], fun q x a h1 h2 => ?_, fun q q' a ys ys' h1 h2 h3 h4 => s.inj q q' a ys ys' h1 h2 (low q ys h3) (low q' ys' h4)⟩
      by_cases hq : q = r
      · subst hq
        rw [List.getElem?_set_self hl] at h1
        cases h1
        exact (s.obj q _ _ hg h2).2
      · rw [List.getElem?_set_ne (Ne.symm hq)] at h1
        exact s.obj q x a h1 h2
    · exact s
/-- a list or a tuple, by its items -/
theorem SR_.seq {d : D} {v : V} {xs : List D} (s : SR_ K H ι g) (r : Rep K H ι d v) (h : seqOf d g = some xs) : ∃ a vs, v = .ref a ∧ (SqL K H a vs ∨ SqT K H a vs) ∧ Reps K H ι xs vs := by
  cases r with
  | tup ht hr =>
    unfold seqOf at h
    cases h
    exact ⟨_, _, rfl, .inr ht, hr⟩
  | @ref r a ha =>
    unfold seqOf at h
    dsimp only at h
    split at h
    · rename_i ys e; cases h; obtain ⟨vs, h1, h2⟩ := s.lst ha e; exact ⟨a, vs, rfl, .inl (SqL.of h1), h2⟩
    · rename_i ys e; cases h; obtain ⟨vs, h1, h2⟩ := s.frz ha e; exact ⟨a, vs, rfl, .inl h1.seq, h2⟩
    · cases h
  | _ => cases h
theorem SR_.list {d : D} {v : V} {xs : List D} (s : SR_ K H ι g) (r : Rep K H ι d v) (h : lstOf d g = some xs) : ∃ a vs, v = .ref a ∧ SqL K H a vs ∧ Reps K H ι xs vs := by
  cases r with
  | @ref r a ha =>
    unfold lstOf at h
    dsimp only at h
    split at h
    · rename_i ys e; cases h; obtain ⟨vs, h1, h2⟩ := s.lst ha e; exact ⟨a, vs, rfl, SqL.of h1, h2⟩
    · rename_i ys e; cases h; obtain ⟨vs, h1, h2⟩ := s.frz ha e; exact ⟨a, vs, rfl, h1.seq, h2⟩
    · cases h
  | _ => cases h
/-! ### environments -/
structure ER (K : PySem.W.Frag) (H : Hp) (ι : List Addr) (ρ : Env) (σ : St) : Prop where
  len : ρ.length = σ.length
  at_ : ∀ (i : Nat) (d : D), ρ[i]? = some (some d) → ∃ v, σ[i]? = some (some v) ∧ Rep K H ι d v
variable {ρ : Env} {σ : St}
theorem ER.ext (e : ER K H ι ρ σ) (x : Ext K H H' ι ι') : ER K H' ι' ρ σ := ⟨e.len, fun i d h => let ⟨v, h1, h2⟩ := e.at_ i d h; ⟨v, h1, h2.ext x⟩⟩
theorem ER.set {d : D} {v : V} (e : ER K H ι ρ σ) (r : Rep K H ι d v) (i : Nat) : ER K H ι (ρ.set i (some d)) (σ.set i (some v)) := by
  refine ⟨by simp [e.len], fun j d' h => ?_⟩
  by_cases hj : j = i
  · subst hj
    have hl : j < ρ.length := by have := (List.getElem?_eq_some_iff.mp h).1; simpa using this
    rw [List.getElem?_set_self hl] at h
    cases h
    exact ⟨v, List.getElem?_set_self (by rw [← e.len]; exact hl), r⟩
  · rw [List.getElem?_set_ne (Ne.symm hj)] at h
    obtain ⟨v', h1, h2⟩ := e.at_ j d' h
    exact ⟨v', by rw [List.getElem?_set_ne (Ne.symm hj)]; exact h1, h2⟩
end
end Py
end

section
set_option Elab.async false
set_option linter.all false
set_option maxRecDepth 100000
set_option autoImplicit false
/-! Soundness of the expressions. -/
namespace Py
open PySem L2

theorem line_eq : sizeLine = LINE := by decide
/-- an exception as an object -/
def ExcR (mg : Str → Option Value) (K : PySem.W.Frag) (H : Hp) (ι : List Addr) (e : Exc) (cls : Value) (dx : Option Addr) : Prop :=
  mg (Str.ofString e.cls) = some cls ∧ (e.at_ = none → dx = none) ∧ ∀ r, e.at_ = some r → ∃ a, dx = some a ∧ ι[r]? = some a
section
variable {α β : Type} (K : PySem.W.Frag) (mg : Str → Option Value)
def Post (W : WX) (σ : St) (H : Hp) (ι : List Addr) (r : R α) (k : α → G → Hp → List Addr → Prop) : Prop := match r with
  | .ok a g => ∀ H' ι', Ext K H H' ι ι' → SR_ K H' ι' g → k a g H' ι'
  | .exc e g => ∀ cls dx H' ι', Ext K H H' ι ι' → SR_ K H' ι' g → ExcR mg K H' ι' e cls dx → W cls dx σ H'
  | .bad => False
def W0 : WX := fun _ _ _ _ => False
/-- an expression's reading -/
def tE (W : WX) (m : M) : TE := fun σ H Q => ∃ ρ g ι, ER K H ι ρ σ ∧ SR_ K H ι g ∧ Post K mg W σ H ι (m ρ g) fun d _ H' ι' => ∀ v, Rep K H' ι' d v → Q v H'
/-- a test's -/
def tT (W : WX) (t : T) : TT := fun σ H Q => ∃ ρ g ι, ER K H ι ρ σ ∧ SR_ K H ι g ∧ Post K mg W σ H ι (t ρ g) fun b _ H' _ => Q b H'
/-- an argument list's -/
def tA (W : WX) (a : A) : TA := fun σ H Q => ∃ ρ g ι, ER K H ι ρ σ ∧ SR_ K H ι g ∧ Post K mg W σ H ι (a ρ g) fun ds _ H' ι' => ∀ vs, Reps K H' ι' ds vs → Q vs H'
variable {K mg} {W : WX} {σ : St} {H H' : Hp} {ι ι' : List Addr}
theorem Post.ext {r : R α} {k : α → G → Hp → List Addr → Prop} (x : Ext K H H' ι ι') (p : Post K mg W σ H ι r k) : Post K mg W σ H' ι' r k := by
  cases r with
  | ok a g => exact fun H2 ι2 y s => p H2 ι2 (x.trans y) s
  | exc e g => exact fun cls dx H2 ι2 y s z => p cls dx H2 ι2 (x.trans y) s z
  | bad => exact p
theorem Post.imp {r : R α} {k k' : α → G → Hp → List Addr → Prop} (p : Post K mg W σ H ι r k) (h : ∀ a g H' ι', r = .ok a g → Ext K H H' ι ι' → SR_ K H' ι' g → k a g H' ι' → k' a g H' ι') : Post K mg W σ H ι r k' := by
  cases r with
  | ok a g => exact fun H2 ι2 y s => h _ _ _ _ rfl y s (p H2 ι2 y s)
  | exc e g => exact p
  | bad => exact p
theorem Post.bind {r : R α} {f : α → G → R β} {k : β → G → Hp → List Addr → Prop} (p : Post K mg W σ H ι (r.bind f) k) : Post K mg W σ H ι r fun a g H' ι' => Post K mg W σ H' ι' (f a g) k := by
  cases r with
  | ok a g => exact fun H2 ι2 y s => Post.ext y p
  | exc e g => exact p
  | bad => exact p
/-- a pure step -/
theorem Post.ofP {o : Option α} {g : G} {k : α → G → Hp → List Addr → Prop} (s : SR_ K H ι g) (p : Post K mg W σ H ι (ofP o g) k) : ∃ a, o = some a ∧ k a g H ι := by
  cases o with
  | none => exact p.elim
  | some a => exact ⟨a, rfl, p H ι Ext.refl s⟩
theorem Post.ofP' {o : Option α} {f : α → G → R β} {g : G} {k : β → G → Hp → List Addr → Prop} (p : Post K mg W σ H ι ((Py.ofP o g).bind f) k) : ∃ a, o = some a ∧ Post K mg W σ H ι (f a g) k := by
  cases o with
  | none => exact p.elim
  | some a => exact ⟨a, rfl, p⟩
theorem Post.ok {a : α} {g : G} {k : α → G → Hp → List Addr → Prop} (s : SR_ K H ι g) (p : Post K mg W σ H ι (.ok a g) k) : k a g H ι := p H ι Ext.refl s
theorem Post.ofO {o : Option (α × G)} {k : α → G → Hp → List Addr → Prop} (p : Post K mg W σ H ι (ofO o) k) : ∃ a g, o = some (a, g) ∧ ∀ H' ι', Ext K H H' ι ι' → SR_ K H' ι' g → k a g H' ι' := by
  rcases o with _ | ⟨a, g⟩
  · exact p.elim
  · exact ⟨a, g, rfl, p⟩
end

section
variable {X : Cx} {W : WX}
theorem _root_.L2.PE.mono {e : Expr} {t t' : TE} (h : PE X e t) (i : ∀ σ H Q, t' σ H Q → t σ H Q) : PE X e t' := ⟨fun pins s σ H Q I q => h.run pins s σ H Q I (i σ H Q q)⟩
theorem _root_.L2.PT.mono {e : Expr} {t t' : TT} (h : PT X e t) (i : ∀ σ H Q, t' σ H Q → t σ H Q) : PT X e t' := ⟨fun pins s σ H Q I q => h.run pins s σ H Q I (i σ H Q q)⟩
theorem _root_.L2.PW.mono {e : Expr} {t t' : TT} (h : PW X e t) (i : ∀ σ H Q, t' σ H Q → t σ H Q) : PW X e t' := ⟨fun w pins s σ H Q I q => h.run w pins s σ H Q I (i σ H Q q)⟩
theorem _root_.L2.PA.mono {e : List Expr} {t t' : TA} (h : PA X e t) (i : ∀ σ H Q, t' σ H Q → t σ H Q) : PA X e t' := ⟨fun p pins s σ H Q I q => h.run p pins s σ H Q I (i σ H Q q)⟩
theorem _root_.L2.PS.mono {e : Stmt} {t t' : TS} (h : PS X e t) (i : ∀ D σ H, t' D σ H → t D σ H) : PS X e t' := ⟨fun pins s σ H D I q => h.run pins s σ H D I (i D σ H q)⟩
theorem _root_.L2.PSs.mono {e : List Stmt} {t t' : TS} (h : PSs X e t) (i : ∀ D σ H, t' D σ H → t D σ H) : PSs X e t' := ⟨fun pins s σ H D I q => h.run pins s σ H D I (i D σ H q)⟩
theorem _root_.L2.PI.mono {tg e : Expr} {t t' : TI} (h : PI X tg e t) (i : ∀ σ H R, t' σ H R → t σ H R) : PI X tg e t' := ⟨fun pins s σ H R I q => h.run pins s σ H R I (i σ H R q)⟩

abbrev EE (X : Cx) (W : WX) (e : Expr) (m : M) : Prop := PE X e (tE X.K X.mg W m)
abbrev TTt (X : Cx) (W : WX) (e : Expr) (t : T) : Prop := PT X e (tT X.K X.mg W t)
abbrev AA (X : Cx) (W : WX) (es : List Expr) (a : A) : Prop := PA X es (tA X.K X.mg W a)
variable {a b c e : Expr} {es : List Expr} {pos : Pos} {ma mb mc m : M} {as : A}

/-! ### names, constants -/
theorem e_var (i : Nat) {x : Str} {pos : Pos} (hN : X.N[i]? = some x := by rfl) (hv : Vis X.env.scope x := by first | exact Or.inl rfl | exact Or.inr (Or.inl rfl) | exact Or.inr (Or.inr rfl)) (hd : (x == ("__debug__" : Str)) = false := by decide)
    (hcd : (x == ("__classdict__" : Str)) = false := by decide) : EE X W (.Name x pos) (mVar i) := (pe_var hN hv hd hcd).mono fun σ H Q ⟨ρ, g, ι, er, s, p⟩ => by
  unfold mVar at p
  cases h : ρ[i]? with
  | none => rw [h] at p; exact p.elim
  | some o =>
    cases o with
    | none => rw [h] at p; exact p.elim
    | some d =>
      rw [h] at p
      obtain ⟨v, h1, h2⟩ := er.at_ i d h
      exact ⟨v, h1, p.ok s v h2⟩
theorem e_C {d : D} {v : V} {e : Expr} (h : PE X e (tC v)) (r : ∀ H ι, Rep X.K H ι d v) : EE X W e (mC d) := h.mono fun σ H Q ⟨ρ, g, ι, er, s, p⟩ => p.ok s v (r H ι)
theorem e_int {i j pos} : EE X W (.Constant (.int i) j pos) (mC (.int i)) := e_C pe_int fun _ _ => .int i
theorem e_bl {i j pos} : EE X W (.Constant (.bool i) j pos) (mC (.bl i)) := e_C pe_bl fun _ _ => .bl i
theorem e_non {j pos} : EE X W (.Constant .none j pos) (mC .non) := e_C pe_non fun _ _ => .non
theorem sS_of (s : String) : Str.ofString s = sS s.toList := Str.ofString_eq_toList s
theorem e_str {x : Str} {s : List Char} {j pos} (h : x = sS s) : EE X W (.Constant (.str x) j pos) (mC (.str s)) := e_C pe_str fun H ι => by
  rw [h]; exact .str _
/-- a module's number -/
theorem e_gint {x : Str} {i : Int} {t : Tok} {pos : Pos} (hm : X.mg x = some (.int i t)) (hg : Gl X x := by rfl) (hd : (x == ("__debug__" : Str)) = false := by decide) : EE X W (.Name x pos) (mC (.int i)) :=
  e_C (pe_glob (v := .int i) hg hm ⟨t, rfl⟩ hd) fun _ _ => .int i
theorem e_gstr {x : Str} {s : List Char} {t : Tok} {pos : Pos} (hm : X.mg x = some (.str (sS s) t)) (hg : Gl X x := by rfl) (hd : (x == ("__debug__" : Str)) = false := by decide) : EE X W (.Name x pos) (mC (.str s)) :=
  e_C (pe_glob (v := .str (sS s)) hg hm ⟨t, rfl⟩ hd) fun _ _ => .str s

theorem e_gint' {x : Str} {i : Int} {pos : Pos} (h : ∃ t, X.mg x = some (.int i t)) (hg : Gl X x := by rfl) (hd : (x == ("__debug__" : Str)) = false := by decide) : EE X W (.Name x pos) (mC (.int i)) := h.elim fun _ hm => e_gint hm hg hd
theorem e_gstr' {x : Str} {s : List Char} {pos : Pos} (h : ∃ t, X.mg x = some (.str (sS s) t)) (hg : Gl X x := by rfl) (hd : (x == ("__debug__" : Str)) = false := by decide) : EE X W (.Name x pos) (mC (.str s)) := h.elim fun _ hm => e_gstr hm hg hd
/-! ### operators -/
def rD (K : PySem.W.Frag) (f : N2) : R2 := fun x y H Q => ∃ d1 d2 g ι, SR_ K H ι g ∧ Rep K H ι d1 x ∧ Rep K H ι d2 y ∧ ∃ d g', f d1 d2 g = some (d, g') ∧ ∀ v H' ι', Ext K H H' ι ι' → SR_ K H' ι' g' → Rep K H' ι' d v → Q v H'
def rD1 (K : PySem.W.Frag) (f : N1) (x : V) (H : Hp) (Q : VK) : Prop := ∃ d1 g ι, SR_ K H ι g ∧ Rep K H ι d1 x ∧ ∃ d g', f d1 g = some (d, g') ∧ ∀ v H' ι', Ext K H H' ι ι' → SR_ K H' ι' g' → Rep K H' ι' d v → Q v H'
theorem two {K mg} {ma mb : M} {f : N2} {σ : St} {H : Hp} {Q : VK} (h : tE K mg W (mOp f ma mb) σ H Q) : tE K mg W ma σ H fun x H1 => tE K mg W mb σ H1 fun y H2 => rD K f x y H2 Q := by
  obtain ⟨ρ, g, ι, er, s, p⟩ := h
  refine ⟨ρ, g, ι, er, s, (Post.bind p).imp fun d1 g1 H1 ι1 _ x1 s1 p1 v1 r1 => ⟨ρ, g1, ι1, er.ext x1, s1, (Post.bind p1).imp fun d2 g2 H2 ι2 _ x2 s2 p2 v2 r2 => ?_⟩⟩
  obtain ⟨d, g', e1, k⟩ := p2.ofO
  exact ⟨d1, d2, g2, ι2, s2, r1.ext x2, r2, d, g', e1, fun v H' ι' x s' r => k H' ι' x s' v r⟩
theorem one {K mg} {ma : M} {f : N1} {σ : St} {H : Hp} {Q : VK} (h : tE K mg W (mUn f ma) σ H Q) : tE K mg W ma σ H fun x H1 => rD1 K f x H1 Q := by
  obtain ⟨ρ, g, ι, er, s, p⟩ := h
  refine ⟨ρ, g, ι, er, s, (Post.bind p).imp fun d1 g1 H1 ι1 _ x1 s1 p1 v1 r1 => ?_⟩
  obtain ⟨d, g', e1, k⟩ := p1.ofO
  exact ⟨d1, g1, ι1, s1, r1, d, g', e1, fun v H' ι' x s' r => k H' ι' x s' v r⟩
theorem e_op {op : Operator} {f : N2} (ho : OpR X (binaryOp op) (rD X.K f)) (ha : EE X W a ma) (hb : EE X W b mb) : EE X W (.BinOp a op b pos) (mOp f ma mb) := (pe_op ho ha hb).mono fun _ _ _ h => two h
theorem e_cmp {op : CmpOp} {f : B2} (ho : OpR X (compareOp op) (rD X.K (p2 f))) (ha : EE X W a ma) (hb : EE X W b mb) (hm : behindInMarks op b = false := by rfl) : EE X W (.Compare a [op] [b] pos) (mOp (p2 f) ma mb) :=
  (pe_cmpR ho ha hb hm).mono fun _ _ _ h => two h
theorem e_un {op : UnaryOp} {f : N1} (ho : UnR X (unaryOp op) (rD1 X.K f)) (ha : EE X W a ma) : EE X W (.UnaryOp op a pos) (mUn f ma) := (pe_un ho ha).mono fun _ _ _ h => one h
theorem rD.pure {K} {f : B2} {x y : V} {H : Hp} {Q : VK} (h : rD K (p2 f) x y H Q) : ∃ d1 d2 g ι, SR_ K H ι g ∧ Rep K H ι d1 x ∧ Rep K H ι d2 y ∧ ∃ d, f d1 d2 g = some d ∧ ∀ v, Rep K H ι d v → Q v H := by
  obtain ⟨d1, d2, g, ι, s, r1, r2, d, g', e, k⟩ := h
  unfold p2 at e
  cases h1 : f d1 d2 g with
  | none => rw [h1] at e; cases e
  | some d' => rw [h1] at e; cases e; exact ⟨d1, d2, g, ι, s, r1, r2, _, h1, fun v r => k v H ι Ext.refl s r⟩
theorem rD1.pure {K} {f : B1} {x : V} {H : Hp} {Q : VK} (h : rD1 K (p1 f) x H Q) : ∃ d1 g ι, SR_ K H ι g ∧ Rep K H ι d1 x ∧ ∃ d, f d1 g = some d ∧ ∀ v, Rep K H ι d v → Q v H := by
  obtain ⟨d1, g, ι, s, r1, d, g', e, k⟩ := h
  unfold p1 at e
  cases h1 : f d1 g with
  | none => rw [h1] at e; cases e
  | some d' => rw [h1] at e; cases e; exact ⟨d1, g, ι, s, r1, _, h1, fun v r => k v H ι Ext.refl s r⟩

/-! ### and, or, not, if as values -/
theorem asB_some {d : D} {c : Bool} (h : asB d = some c) : d = .bl c := by
  cases d <;> simp [asB] at h
  rw [h]
theorem asI_some {d : D} {c : Int} (h : asI d = some c) : d = .int c := by
  cases d <;> simp [asI] at h
  rw [h]
theorem Rep.bl_inv {K H ι} {c : Bool} {v : V} (r : Rep K H ι (.bl c) v) : v = .bl c := by cases r; rfl
theorem Rep.int_inv {K H ι} {c : Int} {v : V} (r : Rep K H ι (.int c) v) : v = .int c := by cases r; rfl
theorem Rep.str_inv {K H ι} {c : List Char} {v : V} (r : Rep K H ι (.str c) v) : v = .str (sS c) := by cases r; rfl
theorem Rep.non_inv {K H ι} {v : V} (r : Rep K H ι .non v) : v = .non := by cases r; rfl
variable {op : PySem.BoolOp} {rest : List Expr}
theorem e_one (h : EE X W a m) : EE X W (.BoolOp op [a] pos) m := pe_one h
theorem e_and (ha : EE X W a ma) (hb : EE X W (.BoolOp .And (b :: rest) pos) mb) : EE X W (.BoolOp .And (a :: b :: rest) pos) (mAnd ma mb) := (pe_and ha hb).mono fun σ H Q ⟨ρ, g, ι, er, s, p⟩ => by
  refine ⟨ρ, g, ι, er, s, (Post.bind p).imp fun d1 g1 H1 ι1 _ x1 s1 p1 v1 r1 => ?_⟩
  obtain ⟨c, hc, p1⟩ := Post.ofP' p1
  cases asB_some hc
  cases r1
  refine ⟨c, rfl, ?_⟩
  cases c with
  | true => exact ⟨ρ, g1, ι1, er.ext x1, s1, p1⟩
  | false => exact p1.ok s1 _ (.bl false)
theorem e_or (ha : EE X W a ma) (hb : EE X W (.BoolOp .Or (b :: rest) pos) mb) : EE X W (.BoolOp .Or (a :: b :: rest) pos) (mOr ma mb) := (pe_or ha hb).mono fun σ H Q ⟨ρ, g, ι, er, s, p⟩ => by
  refine ⟨ρ, g, ι, er, s, (Post.bind p).imp fun d1 g1 H1 ι1 _ x1 s1 p1 v1 r1 => ?_⟩
  obtain ⟨c, hc, p1⟩ := Post.ofP' p1
  cases asB_some hc
  cases r1
  refine ⟨c, rfl, ?_⟩
  cases c with
  | false => exact ⟨ρ, g1, ι1, er.ext x1, s1, p1⟩
  | true => exact p1.ok s1 _ (.bl true)
theorem e_not (ha : EE X W a ma) : EE X W (.UnaryOp .Not a pos) (mNot ma) := (pe_not ha).mono fun σ H Q ⟨ρ, g, ι, er, s, p⟩ => by
  refine ⟨ρ, g, ι, er, s, (Post.bind p).imp fun d1 g1 H1 ι1 _ x1 s1 p1 v1 r1 => ?_⟩
  obtain ⟨c, hc, p1⟩ := Post.ofP' p1
  cases asB_some hc
  cases r1
  exact ⟨c, rfl, p1.ok s1 _ (.bl _)⟩
variable {t u : T}
theorem e_if (hc : TTt X W c t) (ha : EE X W a ma) (hb : EE X W b mb) : EE X W (.IfExp c a b pos) (mIf t ma mb) := (pe_ifExp hc ha hb).mono fun σ H Q ⟨ρ, g, ι, er, s, p⟩ => by
  refine ⟨ρ, g, ι, er, s, (Post.bind p).imp fun k g1 H1 ι1 _ x1 s1 p1 => ?_⟩
  cases k with
  | true => exact ⟨ρ, g1, ι1, er.ext x1, s1, p1⟩
  | false => exact ⟨ρ, g1, ι1, er.ext x1, s1, p1⟩
theorem chain_read {K : PySem.W.Frag} {mg : Str → Option Value} {f f' : B2} {σ : St} {H : Hp} {Q : VK} (h : tE K mg W (mChain f f' ma mb mc) σ H Q) : tChain (rD K (p2 f)) (rD K (p2 f')) (tE K mg W ma) (tE K mg W mb) (tE K mg W mc) σ H Q := by
  obtain ⟨ρ, g, ι, er, s, p⟩ := h
  refine ⟨ρ, g, ι, er, s, (Post.bind p).imp fun d1 g1 H1 ι1 _ x1 s1 p1 v1 r1 => ⟨ρ, g1, ι1, er.ext x1, s1, (Post.bind p1).imp fun d2 g2 H2 ι2 _ x2 s2 p2' v2 r2 => ?_⟩⟩
  obtain ⟨z, e1, p3⟩ := Post.ofP' p2'
  refine ⟨d1, d2, g2, ι2, s2, r1.ext x2, r2, z, g2, by unfold p2; rw [e1]; rfl, fun v3 H3 ι3 x3 s3 r3 => ?_⟩
  obtain ⟨k, e2, p4⟩ := Post.ofP' p3
  cases asB_some e2
  cases r3
  refine ⟨k, rfl, ?_⟩
  cases k with
  | false => exact (Post.ext x3 p4).ok s3 _ (.bl false)
  | true =>
    refine ⟨ρ, g2, ι3, (er.ext x1).ext (x2.trans x3), s3, (Post.bind (Post.ext x3 p4)).imp fun d5 g5 H5 ι5 _ x5 s5 p5 v5 r5 => ?_⟩
    obtain ⟨d6, e6, k6⟩ := p5.ofP s5
    exact ⟨d2, d5, g5, ι5, s5, (r2.ext x3).ext x5, r5, d6, g5, by unfold p2; rw [e6]; rfl, fun v6 H6 ι6 x6 s6 r6 => by
      obtain ⟨d7, e7, k7⟩ := (Post.ext x6 p5).ofP s6
      rw [e6] at e7; cases e7
      exact k7 v6 r6⟩
theorem e_chain {o1 o2 : CmpOp} {f f' : B2} (h1 : OpR X (compareOp o1) (rD X.K (p2 f))) (h2 : OpR X (compareOp o2) (rD X.K (p2 f'))) (ha : EE X W a ma) (hb : EE X W b mb) (hc : EE X W c mc)
    (hm : lastMarks [o1, o2] [b, c] = false := by rfl) : EE X W (.Compare a [o1, o2] [b, c] pos) (mChain f f' ma mb mc) := (pe_chain h1 h2 ha hb hc hm).mono fun σ H Q h => chain_read h

/-! ### tests -/
theorem t_val (h : EE X W e m) (he : ∀ whole, isTrue e X.env whole = (do let v ← whole; standAt e.pos; holding [v] (truthy v)) := by intro _; rfl) : TTt X W e (tVal m) := (pt_val h he).mono fun σ H Q ⟨ρ, g, ι, er, s, p⟩ => by
  refine ⟨ρ, g, ι, er, s, (Post.bind p).imp fun d1 g1 H1 ι1 _ x1 s1 p1 v1 r1 => ?_⟩
  obtain ⟨c, hc, q1⟩ := Post.ofP s1 p1
  cases asB_some hc
  cases r1
  exact ⟨c, rfl, q1⟩
theorem t_cmp {op : CmpOp} {f : B2} (ho : OpR X (compareOp op) (rD X.K (p2 f))) (ha : EE X W a ma) (hb : EE X W b mb) (hm : behindInMarks op b = false := by rfl) : TTt X W (.Compare a [op] [b] pos) (tVal (mOp (p2 f) ma mb)) :=
  (pt_cmpR ho ha hb hm).mono fun σ H Q ⟨ρ, g, ι, er, s, p⟩ => by
  have p := Post.bind p
  have h : tE X.K X.mg W (mOp (p2 f) ma mb) σ H fun x H1 => ∃ c, x = .bl c ∧ Q c H1 := ⟨ρ, g, ι, er, s, p.imp fun d1 g1 H1 ι1 _ x1 s1 p1 v1 r1 => by
    obtain ⟨c, hc, q1⟩ := Post.ofP s1 p1
    cases asB_some hc
    cases r1
    exact ⟨c, rfl, q1⟩⟩
  exact two h
/-- a test that is a value: the reading -/
theorem val_read {K : PySem.W.Frag} {mg : Str → Option Value} {σ : St} {H : Hp} {Q : Bool → Hp → Prop} (h : tT K mg W (tVal m) σ H Q) : tE K mg W m σ H fun x H' => ∃ k, x = .bl k ∧ Q k H' := by
  obtain ⟨ρ, g, ι, er, s, p⟩ := h
  refine ⟨ρ, g, ι, er, s, (Post.bind p).imp fun d1 g1 H1 ι1 _ x1 s1 p1 v1 r1 => ?_⟩
  obtain ⟨c, hc, q1⟩ := Post.ofP s1 p1
  cases asB_some hc
  cases r1
  exact ⟨c, rfl, q1⟩
theorem t_chain {o1 o2 : CmpOp} {f f' : B2} (h1 : OpR X (compareOp o1) (rD X.K (p2 f))) (h2 : OpR X (compareOp o2) (rD X.K (p2 f'))) (ha : EE X W a ma) (hb : EE X W b mb) (hc : EE X W c mc)
    (hm : lastMarks [o1, o2] [b, c] = false := by rfl) : TTt X W (.Compare a [o1, o2] [b, c] pos) (tVal (mChain f f' ma mb mc)) := (pt_chain h1 h2 ha hb hc hm).mono fun σ H Q h => chain_read (val_read h)
theorem truth_rep {K : PySem.W.Frag} {H : Hp} {ι : List Addr} {g : G} {d : D} {v : V} {b : Bool} (s : SR_ K H ι g) (r : Rep K H ι d v) (h : truth d g = some b) : TruV K v H b := by
  cases r with
  | adr _ => cases h
  | non => cases h; rfl
  | bl b => cases h; rfl
  | int i => cases h; rfl
  | str z =>
    unfold truth at h
    dsimp only at h
    split at h
    · rename_i hl
      cases h
      have e : (sS z).length = z.length := by simp [sS, Str.length]
      refine ⟨by rw [e, line_eq]; exact hl, ?_⟩
      rw [e]
      cases z <;> simp
      omega
    · cases h
  | @tup ds vs a ht hr =>
    cases h
    refine .inr (.inl ⟨vs, ht, ?_⟩)
    cases hr <;> rfl
  | @ref q a ha =>
    unfold truth at h
    dsimp only at h
    split at h
    · rename_i xs e
      cases h
      obtain ⟨vs, h1, h2⟩ := s.lst ha e
      exact .inl ⟨vs, SqL.of h1, by cases h2 <;> rfl⟩
    · rename_i xs e
      cases h
      obtain ⟨vs, h1, h2⟩ := s.frz ha e
      exact .inl ⟨vs, h1.seq, by cases h2 <;> rfl⟩
    · cases h
theorem t_tru (h : EE X W e m) (he : ∀ whole, isTrue e X.env whole = (do let v ← whole; standAt e.pos; holding [v] (truthy v)) := by exact fun _ => rfl) : TTt X W e (tTru m) := (pt_truth h he).mono fun σ H Q ⟨ρ, g, ι, er, s, p⟩ => by
  refine ⟨ρ, g, ι, er, s, (Post.bind p).imp fun d1 g1 H1 ι1 _ x1 s1 p1 v1 r1 => ?_⟩
  obtain ⟨c, hc, q1⟩ := Post.ofP s1 p1
  exact ⟨c, truth_rep s1 r1 hc, q1⟩
theorem t_and1 (h : TTt X W a t) : PW X (.BoolOp .And [a] pos) (tT X.K X.mg W t) := pw_and1 h
theorem t_or1 (h : TTt X W a t) : PW X (.BoolOp .Or [a] pos) (tT X.K X.mg W t) := pw_or1 h
theorem t_and (ha : TTt X W a t) (hb : PW X (.BoolOp .And (b :: rest) pos) (tT X.K X.mg W u)) : PW X (.BoolOp .And (a :: b :: rest) pos) (tT X.K X.mg W (Py.tAnd t u)) := (pw_and ha hb).mono fun σ H Q ⟨ρ, g, ι, er, s, p⟩ => by
  refine ⟨ρ, g, ι, er, s, (Post.bind p).imp fun k g1 H1 ι1 _ x1 s1 p1 => ?_⟩
  cases k with
  | true => exact ⟨ρ, g1, ι1, er.ext x1, s1, p1⟩
  | false => exact p1.ok s1
theorem t_or (ha : TTt X W a t) (hb : PW X (.BoolOp .Or (b :: rest) pos) (tT X.K X.mg W u)) : PW X (.BoolOp .Or (a :: b :: rest) pos) (tT X.K X.mg W (Py.tOr t u)) := (pw_or ha hb).mono fun σ H Q ⟨ρ, g, ι, er, s, p⟩ => by
  refine ⟨ρ, g, ι, er, s, (Post.bind p).imp fun k g1 H1 ι1 _ x1 s1 p1 => ?_⟩
  cases k with
  | false => exact ⟨ρ, g1, ι1, er.ext x1, s1, p1⟩
  | true => exact p1.ok s1
theorem t_w (h : PW X e (tT X.K X.mg W t)) : TTt X W e t := h.pt
theorem t_not (h : TTt X W a t) : TTt X W (.UnaryOp .Not a pos) (Py.tNot t) := (pt_not h).mono fun σ H Q ⟨ρ, g, ι, er, s, p⟩ => by
  exact ⟨ρ, g, ι, er, s, (Post.bind p).imp fun k g1 H1 ι1 _ x1 s1 p1 => p1.ok s1⟩

/-! ### argument lists, displays -/
theorem a_nil : AA X W [] mNil := pa_nil.mono fun σ H Q ⟨ρ, g, ι, er, s, p⟩ => p.ok s [] .nil
theorem a_cons (ha : EE X W e m) (hr : AA X W es as) (hs : starEach (e :: es) X.env = (false, eval e X.env) :: starEach es X.env := by rfl) : AA X W (e :: es) (mCons m as) := (pa_cons ha hr hs).mono fun σ H Q ⟨ρ, g, ι, er, s, p⟩ => by
  refine ⟨ρ, g, ι, er, s, (Post.bind p).imp fun d1 g1 H1 ι1 _ x1 s1 p1 v1 r1 => ⟨ρ, g1, ι1, er.ext x1, s1, (Post.bind p1).imp fun ds g2 H2 ι2 _ x2 s2 p2 vs rs => ?_⟩⟩
  exact p2.ok s2 _ (.cons (r1.ext x2) rs)
theorem e_tup {x1} (h : AA X W es as) : EE X W (.Tuple es x1 pos) (mTup as) := (pe_tup h).mono fun σ H Q ⟨ρ, g, ι, er, s, p⟩ => by
  refine ⟨ρ, g, ι, er, s, (Post.bind p).imp fun ds g1 H1 ι1 _ x1 s1 p1 vs rs => ?_⟩
  by_cases hl : ds.length ≤ LINE
  · rw [if_pos hl] at p1
    refine ⟨by rw [line_eq, ← rs.len]; exact hl, fun q hq => ?_⟩
    exact p1 _ ι1 (Ext.new hq) (s1.new hq) _ (.tup (SqT.of upd_same) (rs.ext (Ext.new hq)))
  · rw [if_neg hl] at p1
    exact p1.elim
theorem e_lst (h : AA X W es as) : EE X W (.List es pos) (mLst as) := (pe_lst h).mono fun σ H Q ⟨ρ, g, ι, er, s, p⟩ => by
  refine ⟨ρ, g, ι, er, s, (Post.bind p).imp fun ds g1 H1 ι1 _ x1 s1 p1 vs rs => ?_⟩
  by_cases hl : ds.length ≤ LINE
  · rw [if_pos hl] at p1
    refine ⟨by rw [line_eq, ← rs.len]; exact hl, fun q hq => ?_⟩
    exact p1 _ (ι1 ++ [q]) ((Ext.new hq).trans Ext.snoc) (s1.newL hq rs) _ (.ref (by rw [← s1.len]; simp))
  · rw [if_neg hl] at p1
    exact p1.elim
end
end Py
end

section
set_option Elab.async false
set_option linter.all false
set_option maxRecDepth 100000
set_option autoImplicit false
/-! Sets of texts: filled from a tuple or a list, walked, sorted. -/
namespace PyG
open PySem PySem.Spec PyProof.Rows L2 PySem.Froz

/-! ### the payload behind an add -/
theorem tail_perm (ep : Nat) (es : Array (Int × Value)) (t : SetTable) (d : Bool) : (tailTx ep es t d).1.toList.Perm es.toList := by
  unfold tailTx
  split
  · exact relayAll_perm t es _
  · exact List.Perm.refl _
theorem tail_ris {ep : Nat} {es : Array (Int × Value)} {t : SetTable} {d : Bool} (r : Ris t.place.toList) : Ris (tailTx ep es t d).2.2.place.toList := by
  unfold tailTx
  split
  · exact relayAll_ris t es _
  · exact r
theorem tail_led (ep : Nat) (es : Array (Int × Value)) (t : SetTable) (d : Bool) : (tailTx ep es t d).2.2.led = t.led := by
  unfold tailTx
  split
  · exact relayAll_led t es _
  · rfl
theorem off_place (b : SetTable) : (if b.plain = true then { b with plain := false } else b).place = b.place := by split <;> rfl
theorem off_led (b : SetTable) : (if b.plain = true then { b with plain := false } else b).led = b.led := by split <;> rfl
theorem add_perm (x : Int) (v : Value) (D : SD) : (addTx x v D).1.toList.Perm ((x, v) :: D.1.toList) := by
  unfold addTx
  refine (tail_perm _ _ _ _).trans ((layNew_perm D.2.2 D.1 x v).trans ?_)
  rw [Array.toList_push]
  exact List.perm_append_singleton _ _
theorem add_ris {x : Int} {v : Value} {D : SD} (r : Ris D.2.2.place.toList) : Ris (addTx x v D).2.2.place.toList := by
  unfold addTx
  refine tail_ris ?_
  rw [off_place]
  exact layNew_ris D.2.2 D.1 x v r
theorem add_led (x : Int) (v : Value) (D : SD) : (addTx x v D).2.2.led = D.2.2.led := by
  unfold addTx
  rw [tail_led, off_led, layNew_led]

/-! ### what a set of texts is -/
def txt (e : Int × Value) : Str := strOf e.2
/-- the payload D of a set of just the texts l -/
structure TxD (P : Program) (w : World) (D : SD) (l : List Str) : Prop where
  ok : TxOk P w D l
  nd : l.Nodup
  pm : (D.1.toList.map txt).Perm l
  tx : ∀ e ∈ D.1.toList, ∃ k u, e.2 = Value.str k u
  ris : Ris D.2.2.place.toList
  led : w.params.followText "set-order" = true ∨ D.2.2.led = true
section
variable {P : Program} {w : World} {D : SD} {l : List Str}
theorem TxD.add {k : Str} (T : TxD P w D l) (u : Tok) (hk : k ∉ l) : TxD P w (addTx (hashStr w k) (.str k u) D) (k :: l) where
  ok := add_ok u T.ok
  nd := List.nodup_cons.mpr ⟨hk, T.nd⟩
  pm := ((add_perm _ _ D).map txt).trans (T.pm.cons k)
  tx := fun e he => by
    rcases List.mem_cons.mp ((add_perm (hashStr w k) (.str k u) D).mem_iff.mp he) with z | z
    · exact ⟨k, u, by rw [z]⟩
    · exact T.tx e z
  ris := add_ris T.ris
  led := T.led.imp id fun z => by rw [add_led]; exact z
def blank (w : World) : SD := (#[], 0, .fresh 0 0 (!w.params.followText "set-order"))
theorem TxD.blank : TxD P w (blank w) [] where
  ok := TxOk.nil rfl
  nd := List.nodup_nil
  pm := List.Perm.refl _
  tx := fun e he => by cases he
  ris := List.Pairwise.nil
  led := by
    show _ ∨ (!w.params.followText "set-order") = true
    cases w.params.followText "set-order"
    · exact .inr rfl
    · exact .inl rfl

variable {A : Around} {E : Value → Shared → Prop} {s : Shared} {a : Addr}
/-- a text that is there already -/
theorem add_old {k : Str} {u : Tok} {Q : Bool → Shared → Prop} (ho : s.heap.get? a = some (sObj "set" D)) (T : TxD P w D l) (hk : k ∈ l) (hb : l.length < scanBound) (h : Q false s) :
    wpAny (model P w) A (setAddHashed a (.str k u) (hashStr w k)) Q E s := by
  obtain ⟨es, ep, t⟩ := D
  have dat : (sObj "set" (es, ep, t)).data = .set es ep t := rfl
  have fits : t.fits es.size = true := T.ok.fit
  have el : ElemsOf (strKind P w) es.toList := T.ok.el
  have few : es.size < scanBound := by
    have z : es.size = l.length := T.ok.sz
    omega
  obtain ⟨e0, he0, q0⟩ := (T.ok.mem k).mp hk
  unfold setAddHashed setAddHashedIn
  refine wpAny_holding (wpAny_bind (wpAny_setState_of ho dat fits ?_))
  dsimp only
  rw [byScan_of rfl few el, if_pos rfl]
  unfold setAddByScan
  refine wpAny_bind (wpAny_bind (wpAny_rule (wpAny_bind (wpAny_setScan_of (knd := strKind P w) (k := k) (is_str k u) ho dat fits el ?_))))
  cases hf : List.findIdx? (fun e => (strKind P w).is k e.2) es.toList with
  | none =>
    have c := List.findIdx?_eq_none_iff.mp hf e0 he0
    rw [q0] at c
    cases c
  | some j =>
    dsimp only
    exact wpAny_pure (wpAny_pure h)
/-- add, one text -/
theorem add_any {k : Str} {u : Tok} {Q : Bool → Shared → Prop} (ho : s.heap.get? a = some (sObj "set" D)) (T : TxD P w D l) (hb : l.length + 1 < scanBound)
    (h : ∀ b h' D' l', Heap.SameBut a s.heap h' → h'.get? a = some (sObj "set" D') → TxD P w D' l' → l'.length ≤ l.length + 1 → (∀ x, x ∈ l' ↔ x = k ∨ x ∈ l) → Q b { s with heap := h' }) :
    wpAny (model P w) A (setAddHashed a (.str k u) (hashStr w k)) Q E s := by
  by_cases hk : k ∈ l
  · exact add_old ho T hk (by omega) (h false s.heap D l (Heap.SameBut.refl a s.heap) ho T (Nat.le_succ _) fun x => ⟨.inr, fun z => z.elim (fun e => e ▸ hk) id⟩)
  · exact add_x ho T.ok hk hb (h true _ _ (k :: l) (Heap.SameBut.update ..) (get_upd _ ho rfl) (T.add u hk) (Nat.le_refl _) fun x => List.mem_cons)
end

/-! ### filling -/
section
variable {P : Program} {w : World} {A : Around} {I : Addr} {fp wr : List Addr} {Gs : Array GenState → Array GenState → Prop} {n : Nat} {Pv : Nat → Value → Prop} {St : Nat → Shared → Prop} {R : Result → Shared → Prop}
theorem fill (W : WalksS P w A.in1 I fp wr Gs n Pv St) (a : Addr) (ha : a ∉ fp) (ks : List Str) (hn : n = ks.length) (hb : ks.length + 1 < scanBound) (hv : ∀ i v, Pv i v → ∃ x u, ks[i]? = some x ∧ v = .str x u) :
    ∀ (m i : Nat) (s : Shared), n - i = m → i ≤ n → St i s → (∃ D l, s.heap.get? a = some (sObj "set" D) ∧ TxD P w D l ∧ l.length ≤ i ∧ ∀ x, x ∈ l ↔ x ∈ ks.take i) →
      (∀ s' D l, Moved (a :: wr) Gs s s' → s'.heap.get? a = some (sObj "set" D) → TxD P w D l → l.length ≤ n → (∀ x, x ∈ l ↔ x ∈ ks) → R (.ok (.ret .none)) s') →
      codeAny (model P w) A (.builtin "set.update.loop" ⟨[.ref a, .ref I], []⟩) R s := by
  have naw : a ∉ wr := fun z => ha (W.sub _ z)
  have up : ∀ b ∈ wr, b ∈ a :: wr := fun b z => List.mem_cons_of_mem _ z
  intro m
  induction m with
  | zero =>
    intro i s e1 hi st ⟨D, l, ho, T, hl, hm⟩ k
    obtain rfl : i = n := by omega
    refine codeAny_builtin F.entry_set_update_loop ?_
    rw [Around.under_plainId F.plain_set_update_loop _]
    show wpAny _ A.in1 (pyNext (.ref I) >>= _) _ _ s
    refine wpAny_bind (W.done s _ _ st fun s' mv => ?_)
    show wpAny _ A.in1 (ret Value.none) _ _ s'
    refine wpAny_pure (k s' D l (mv.mono up) (mv.heap a _ naw ho) T hl fun x => ?_)
    rw [hm x, List.take_of_length_le (Nat.le_of_eq hn.symm)]
  | succ m ih =>
    intro i s e1 hi st ⟨D, l, ho, T, hl, hm⟩ k
    have lt : i < n := by omega
    refine codeAny_builtin F.entry_set_update_loop ?_
    rw [Around.under_plainId F.plain_set_update_loop _]
    show wpAny _ A.in1 (pyNext (.ref I) >>= _) _ _ s
    refine wpAny_bind (W.item i s _ _ lt st fun v s1 pv st1 mv => ?_)
    obtain ⟨x, u, hx, rfl⟩ := hv i v pv
    have ho1 := mv.heap a _ naw ho
    show wpAny _ A.in1 (holding [Value.str x u] (setAdd a (.str x u)) >>= _) _ _ s1
    refine wpAny_bind (wpAny_holding ?_)
    unfold setAdd
    refine wpAny_holding (wpAny_bind ((strKind P w).pyHash (k := x) (is_str x u) ?_))
    refine add_any (s := { s1 with toks := s1.toks + 1 }) ho1 T (by omega) fun b h' D' l' sb ho2 T2 hl2 hm2 => ?_
    have inv2 : ∃ D l, h'.get? a = some (sObj "set" D) ∧ TxD P w D l ∧ l.length ≤ i + 1 ∧ ∀ x, x ∈ l ↔ x ∈ ks.take (i + 1) := ⟨D', l', ho2, T2, by omega, fun y => by
      rw [hm2 y, hm y, List.take_add_one, hx]
      simp only [List.mem_append, Option.toList_some, List.mem_singleton]
      exact Or.comm⟩
    refine wpAny_pure ⟨plainId_quiet F.plain_set_update_loop _, ih (i + 1) _ (by omega) lt (W.frame _ s1 _ _ st1 (Nat.le_succ _) fun b hb2 o e => ?_) inv2 fun s2 D2 l2 mv2 ho3 T3 hl3 hm3 => ?_⟩
    · exact (sb.2 b fun z : b = a => ha (by rw [← z]; exact hb2)).trans e
    · refine k s2 D2 l2 (Moved.trans W.gtrans ((mv.mono up).then_heap (Nat.le_succ _) fun b o hb2 e => ?_) mv2) ho3 T3 hl3 hm3
      exact (sb.2 b fun z : b = a => hb2 (by rw [z]; exact List.mem_cons_self)).trans e
end
end PyG
end

section
set_option Elab.async false
set_option linter.all false
set_option maxRecDepth 100000
set_option maxHeartbeats 4000000
set_option autoImplicit false
/-! set(x), x a tuple or a list of texts. -/
namespace PyG
open PySem PySem.Spec PyProof.Rows L2 PySem.Froz
section
variable {P : Program} {w : World} {A : Around} {E : Value → Shared → Prop} {s : Shared}
abbrev newS (w : World) (h : Heap) : Heap := h.push (sObj "set" (blank w))
theorem newS_at (w : World) (h : Heap) : (newS w h).get? h.objs.size = some (sObj "set" (blank w)) := Heap.get?_push_size _ rfl
theorem newS_size (w : World) (h : Heap) : (newS w h).objs.size = h.objs.size + 1 := Heap.size_push ..
/-- what stands behind set(x) -/
def Full (P : Program) (w : World) (s : Shared) (ks : List Str) (s2 : Shared) : Prop :=
  ∃ h' tk D l, s2 = { s with heap := h', toks := tk } ∧ h'.get? s.heap.objs.size = some (sObj "set" D) ∧ TxD P w D l ∧ l.length ≤ ks.length ∧ (∀ x, x ∈ l ↔ x ∈ ks) ∧ ∀ b o, s.heap.get? b = some o → h'.get? b = some o
theorem strs_at {vs : List Value} {ks : List Str} (h : StrsAre vs ks) {i : Nat} {v : Value} (e : vs[i]? = some v) : ∃ x u, ks[i]? = some x ∧ v = .str x u := by
  obtain ⟨x, u, rfl⟩ := h.all v (List.mem_of_getElem? e)
  refine ⟨x, u, ?_, rfl⟩
  rw [← h.strs, List.getElem?_map, e]
  rfl

theorem set_tuple {q : Addr} {its : Array Value} (ks : List Str) {Q : Value → Shared → Prop} (hh : A.handled = none) (hq : s.heap.IsTuple q its) (hs : StrsAre its.toList ks) (hb : ks.length + 1 < scanBound)
    (h : ∀ s2, Full P w s ks s2 → Q (.ref s.heap.objs.size) s2) : wpAny (model P w) A (call (.type "set") [.ref q]) Q E s := by
  have sz : its.size = ks.length := by rw [← Array.length_toList, hs.length]
  obtain ⟨c, tl, hmro⟩ := F.called_set.mro
  have made := F.called_set.made
  have sub := F.called_set.sub
  refine wpAny_call (codeAny_of_tree ?_)
  show wpAny _ _ (callAny (.type "set") _) _ _ _
  refine wpAny_pure ⟨Code.quiet_builtin _ (by decide +kernel), codeAny_builtin F.entry_type_call ?_⟩
  rw [Around.under_plain (weight_type_call_type "set" [.ref q] []) rfl]
  have f1 := F.called_set.notType
  have f2 := F.called_set.canCreate
  have f3 := F.typeCall_set_1 (.ref q)
  repeat (any_goals (first | assumption | wp_step))
  refine codeAny_mono (code_set_led1 (.ref q) (E := E) (Q₁ := fun ob s1 => ob = .ref s.heap.objs.size ∧ s1 = { s with heap := newS w s.heap }) ⟨rfl, rfl⟩) fun r s1 hr => ?_
  cases r with
  | error e => exact hr
  | ok fl =>
    cases fl with
    | ret ob =>
      obtain ⟨rfl, rfl⟩ := hr
      have hT : Shared.TypeIs { s with heap := newS w s.heap } (.ref s.heap.objs.size) "set" := ⟨_, newS_at w s.heap, rfl⟩
      have g1 := F.called_set.init.lookup
      have g2 := F.called_set.init.bind (.ref s.heap.objs.size)
      repeat (any_goals (first | assumption | wp_step))
      refine codeAny_mono (codeAny_call_builtin (R := wants (fun r s2 => r = .none ∧ Full P w s ks s2) E) F.called_set.init.plain F.entry_set_init (check_set_init_1 hT ?_)) fun r2 s2 hr2 => ?_
      · obtain ⟨ol, hol, hcl, nl, hdl⟩ := hq
        obtain ⟨ocls, odict, odata, oslots⟩ := ol
        simp only at hcl hdl
        subst hcl; subst hdl
        have at1 : (newS w s.heap).get? q = some { cls := .type "tuple", dict := odict, data := .seq its nl, slots := oslots } := Heap.get?_push_of_some _ hol
        have k1 := F.sub_tuple_set
        have k2 := F.sub_tuple_frozenset
        have k3 : (Value.type "tuple" == Value.type "dict") = false := by decide
        have is1 : (newS w s.heap).IsTuple q its := ⟨_, at1, rfl, nl, rfl⟩
        unfold Builtin.«set.__init__» noKeywords Builtin.Frozenset.updateFrom
        generalize hPI : pyIter = PI
        wp_walk
        subst hPI
        refine wpAny_pyIter_tuple is1 (wpAny_bind (wpAny_runValue ?_))
        have hq0 : q < s.heap.objs.size := Heap.lt_size hol
        have h3 : A.in1.in1.in1.handled = none := by simp [hh]
        have apart : q ≠ (newS w s.heap).objs.size := by rw [newS_size]; exact Nat.ne_of_lt (Nat.lt_succ_of_lt hq0)
        have nf : s.heap.objs.size ∉ [(newS w s.heap).objs.size, q] := by
          rw [newS_size]
          simp only [List.mem_cons, List.not_mem_nil, or_false, not_or]
          exact ⟨Nat.ne_of_lt (Nat.lt_succ_self _), Nat.ne_of_gt hq0⟩
        have val : ∀ (i : Nat) (v : Value), its[i]? = some v → ∃ x u, ks[i]? = some x ∧ v = .str x u := fun i v e => strs_at hs (by rw [Array.getElem?_toList]; exact e)
        refine fill ((Walks.tuple h3 _ q apart its).toS) s.heap.objs.size nf ks sz hb val (its.size - 0) 0 _ rfl (Nat.zero_le _) ⟨⟨_, Heap.get?_push_size _ rfl, rfl, rfl⟩, is1.push _⟩ ?c0 ?cR
        case c0 => exact ⟨_, [], Heap.get?_push_of_some _ (newS_at w s.heap), TxD.blank, Nat.le_refl _, fun x => by simp⟩
        case cR =>
          intro s3 D l mv ho T hl hm
          obtain ⟨h4, gs4, d4, tk4, os4⟩ := s3
          have e1 : gs4 = s.gens := mv.gens
          have e2 : d4 = s.drawn := mv.drawn
          have e3 : os4 = s.os := mv.os
          subst e1; subst e2; subst e3
          show wpAny _ _ _ _ _ _
          refine wpAny_pure ?_
          show wpAny _ _ (ret Value.none) _ _ _
          rw [sz] at hl
          refine wpAny_pure ⟨rfl, h4, tk4, D, l, rfl, ho, T, hl, hm, fun b o e => ?_⟩
          have b0 := Heap.lt_size e
          refine mv.heap b o ?_ (Heap.get?_push_of_some _ (Heap.get?_push_of_some _ e))
          simp only [List.mem_cons, List.not_mem_nil, or_false, not_or]
          exact ⟨Nat.ne_of_lt b0, by rw [newS_size]; exact Nat.ne_of_lt (Nat.lt_succ_of_lt b0)⟩
      · cases r2 with
        | error e => exact hr2
        | ok fl2 =>
          cases fl2 with
          | ret r =>
            obtain ⟨rfl, hF⟩ := hr2
            have hF2 := hF
            obtain ⟨h4, tk4, D, l, rfl, ho, T, hl, hm, k⟩ := hF2
            repeat (any_goals (first | assumption | wp_step))
            exact h _ hF
          | _ => exact hr2.elim
    | _ => exact hr.elim

theorem set_list {q : Addr} {its : Array Value} (ks : List Str) {Q : Value → Shared → Prop} (hh : A.handled = none) (hq : s.heap.IsList q its) (hs : StrsAre its.toList ks) (hb : ks.length + 1 < scanBound)
    (h : ∀ s2, Full P w s ks s2 → Q (.ref s.heap.objs.size) s2) : wpAny (model P w) A (call (.type "set") [.ref q]) Q E s := by
  have sz : its.size = ks.length := by rw [← Array.length_toList, hs.length]
  obtain ⟨c, tl, hmro⟩ := F.called_set.mro
  have made := F.called_set.made
  have sub := F.called_set.sub
  refine wpAny_call (codeAny_of_tree ?_)
  show wpAny _ _ (callAny (.type "set") _) _ _ _
  refine wpAny_pure ⟨Code.quiet_builtin _ (by decide +kernel), codeAny_builtin F.entry_type_call ?_⟩
  rw [Around.under_plain (weight_type_call_type "set" [.ref q] []) rfl]
  have f1 := F.called_set.notType
  have f2 := F.called_set.canCreate
  have f3 := F.typeCall_set_1 (.ref q)
  repeat (any_goals (first | assumption | wp_step))
  refine codeAny_mono (code_set_led1 (.ref q) (E := E) (Q₁ := fun ob s1 => ob = .ref s.heap.objs.size ∧ s1 = { s with heap := newS w s.heap }) ⟨rfl, rfl⟩) fun r s1 hr => ?_
  cases r with
  | error e => exact hr
  | ok fl =>
    cases fl with
    | ret ob =>
      obtain ⟨rfl, rfl⟩ := hr
      have hT : Shared.TypeIs { s with heap := newS w s.heap } (.ref s.heap.objs.size) "set" := ⟨_, newS_at w s.heap, rfl⟩
      have g1 := F.called_set.init.lookup
      have g2 := F.called_set.init.bind (.ref s.heap.objs.size)
      repeat (any_goals (first | assumption | wp_step))
      refine codeAny_mono (codeAny_call_builtin (R := wants (fun r s2 => r = .none ∧ Full P w s ks s2) E) F.called_set.init.plain F.entry_set_init (check_set_init_1 hT ?_)) fun r2 s2 hr2 => ?_
      · obtain ⟨ol, hol, hcl, nl, hdl⟩ := hq
        obtain ⟨ocls, odict, odata, oslots⟩ := ol
        simp only at hcl hdl
        subst hcl; subst hdl
        have at1 : (newS w s.heap).get? q = some { cls := .type "list", dict := odict, data := .seq its nl, slots := oslots } := Heap.get?_push_of_some _ hol
        have k1 := F.sub_list_set
        have k2 := F.sub_list_frozenset
        have k3 : (Value.type "list" == Value.type "dict") = false := by decide
        have is1 : (newS w s.heap).IsList q its := ⟨_, at1, rfl, nl, rfl⟩
        unfold Builtin.«set.__init__» noKeywords Builtin.Frozenset.updateFrom
        generalize hPI : pyIter = PI
        wp_walk
        subst hPI
        refine wpAny_pyIter_list is1 (wpAny_bind (wpAny_runValue ?_))
        have hq0 : q < s.heap.objs.size := Heap.lt_size hol
        have h3 : A.in1.in1.in1.handled = none := by simp [hh]
        have apart : q ≠ (newS w s.heap).objs.size := by rw [newS_size]; exact Nat.ne_of_lt (Nat.lt_succ_of_lt hq0)
        have nf : s.heap.objs.size ∉ [(newS w s.heap).objs.size, q] := by
          rw [newS_size]
          simp only [List.mem_cons, List.not_mem_nil, or_false, not_or]
          exact ⟨Nat.ne_of_lt (Nat.lt_succ_self _), Nat.ne_of_gt hq0⟩
        have val : ∀ (i : Nat) (v : Value), its[i]? = some v → ∃ x u, ks[i]? = some x ∧ v = .str x u := fun i v e => strs_at hs (by rw [Array.getElem?_toList]; exact e)
        refine fill ((Walks.list h3 _ q apart its).toS) s.heap.objs.size nf ks sz hb val (its.size - 0) 0 _ rfl (Nat.zero_le _) ⟨⟨_, Heap.get?_push_size _ rfl, rfl, rfl⟩, is1.push _⟩ ?c0 ?cR
        case c0 => exact ⟨_, [], Heap.get?_push_of_some _ (newS_at w s.heap), TxD.blank, Nat.le_refl _, fun x => by simp⟩
        case cR =>
          intro s3 D l mv ho T hl hm
          obtain ⟨h4, gs4, d4, tk4, os4⟩ := s3
          have e1 : gs4 = s.gens := mv.gens
          have e2 : d4 = s.drawn := mv.drawn
          have e3 : os4 = s.os := mv.os
          subst e1; subst e2; subst e3
          show wpAny _ _ _ _ _ _
          refine wpAny_pure ?_
          show wpAny _ _ (ret Value.none) _ _ _
          rw [sz] at hl
          refine wpAny_pure ⟨rfl, h4, tk4, D, l, rfl, ho, T, hl, hm, fun b o e => ?_⟩
          have b0 := Heap.lt_size e
          refine mv.heap b o ?_ (Heap.get?_push_of_some _ (Heap.get?_push_of_some _ e))
          simp only [List.mem_cons, List.not_mem_nil, or_false, not_or]
          exact ⟨Nat.ne_of_lt b0, by rw [newS_size]; exact Nat.ne_of_lt (Nat.lt_succ_of_lt b0)⟩
      · cases r2 with
        | error e => exact hr2
        | ok fl2 =>
          cases fl2 with
          | ret r =>
            obtain ⟨rfl, hF⟩ := hr2
            have hF2 := hF
            obtain ⟨h4, tk4, D, l, rfl, ho, T, hl, hm, k⟩ := hF2
            repeat (any_goals (first | assumption | wp_step))
            exact h _ hF
          | _ => exact hr2.elim
    | _ => exact hr.elim

/-- the values of a set's walk are the set's texts -/
theorem walk_strs {D : SD} {l : List Str} {vs : List Value} (T : TxD P w D l) (pm : vs.Perm (D.1.toList.map (·.2))) : StrsAre vs (vs.map strOf) ∧ (vs.map strOf).Perm l := by
  refine ⟨strsAre_map vs fun v hv => ?_, ?_⟩
  · obtain ⟨e, he, ev⟩ := List.mem_map.mp (pm.mem_iff.mp hv)
    obtain ⟨k, u, e2⟩ := T.tx e he
    exact ⟨k, u, ev.symm.trans e2⟩
  · have z := pm.map strOf
    rw [List.map_map] at z
    exact z.trans T.pm
theorem sorted_txt {a : Addr} {D : SD} {l : List Str} {Q : Value → Shared → Prop} (ho : s.heap.get? a = some (sObj "set" D)) (T : TxD P w D l) (hh : A.handled = none) (few : l.length < scanBound)
    (hQ : ∀ s' p (out : Array Value) (c : Nat) (xs : List Str), (∀ b o, s.heap.get? b = some o → s'.heap.get? b = some o) → s'.gens = s.gens → s'.os = s.os → s.heap.objs.size ≤ p →
      s'.heap.get? p = some (seqObj "list" out c) → StrsAre out.toList xs → sortedS xs = true → xs.Perm l → Q (.ref p) s') : wpAny (model P w) A (call (.builtin "sorted") [.ref a]) Q E s := by
  obtain ⟨es, ep, t⟩ := D
  have few2 : es.size < scanBound := by
    have z : es.size = l.length := T.ok.sz
    omega
  refine Calls.call_function_entry kind_sorted plain_sorted entry_sorted (args_sorted1 _) ?_
  unfold Builtin.«sorted»
  refine wpAny_bind (m := checkCount "sorted" 1 1 _) (wpAny_pure (wpAny_bind ?_))
  refine collect_set (A := A.in1) (es := es) (ep := ep) (t := t) hh ⟨_, ho, rfl, rfl⟩ T.ok.fit few2 T.ris T.led fun s1 vs k1 z1 gs1 os1 pm => ?_
  obtain ⟨hst, hpm⟩ := walk_strs T pm
  have len : vs.length = l.length := by rw [← hpm.length_eq, List.length_map]
  have lim : vs.length ≤ sizeLine := by rw [len]; exact fits_of_scanBound few
  refine wpAny_bind (wpAny_newList ?_ lim)
  have at1 : (s1.heap.push (seqObj "list" vs.toArray 0)).get? s1.heap.objs.size = some (seqObj "list" vs.toArray 0) := Heap.get?_push_size _ rfl
  refine wpAny_bind (wpAny_holding (wpAny_call_entry slot_list_sort ⟨_, at1, rfl⟩ entry_list_sort (list_sort_treeKAny strKind_oneLt at1 hst.keysOf (fun v1 v2 rest e => keyKind_strs (by rw [← e]; exact hst)) lim fun st' p1 p2 => ⟨_, rfl, ?_⟩) (args_list_sort _)))
  obtain ⟨xs, a1, a2, a3⟩ := sorted_out_str hst p1 p2
  obtain ⟨c, hc⟩ := sortedHeap_at (vs := vs) (out := (arrOf st').map (·.2)) at1
  refine wpAny_pure ⟨_, rfl, hQ _ s1.heap.objs.size _ c xs (fun b u e => ?_) gs1 os1 z1 hc a1 a3 (a2.trans hpm)⟩
  have e1 := k1 b u e
  have lt := Heap.lt_size e1
  show (sortedHeap (s1.heap.push (seqObj "list" vs.toArray 0)) s1.heap.objs.size vs _).get? b = some u
  rw [sortedHeap_old (Nat.ne_of_lt lt) (by rw [size_push']; exact Nat.lt_succ_of_lt lt)]
  exact Heap.get?_push_of_some _ e1
end
end PyG
end

section
set_option Elab.async false
set_option linter.all false
set_option maxRecDepth 100000
set_option autoImplicit false
/-! Soundness of the operators. -/
namespace Py
open PySem L2

theorem sS_length (s : List Char) : (sS s).length = s.length := by simp [sS, Str.length]
theorem sS_append (s t : List Char) : sS s ++ sS t = sS (s ++ t) := by
  show Str.append (sS s) (sS t) = _
  simp [sS, Str.append]
theorem toNat_inj {c d : Char} (h : c.toNat = d.toNat) : c = d := Char.toNat_inj.mp h
theorem map_toNat_inj {s t : List Char} (h : s.map Char.toNat = t.map Char.toNat) : s = t := by
  induction s generalizing t with
  | nil => cases t with
    | nil => rfl
    | cons _ _ => cases h
  | cons c s ih => cases t with
    | nil => cases h
    | cons d t =>
      simp only [List.map_cons, List.cons.injEq] at h
      rw [toNat_inj h.1, ih h.2]
theorem sS_inj {s t : List Char} (h : sS s = sS t) : s = t := by
  unfold sS at h
  injection h with h
  exact map_toNat_inj (by simpa using congrArg Array.toList h)
theorem sS_list (s : List Char) : (sS s).cps.toList = s.map Char.toNat := by simp [sS]
theorem mutOf_ref {a : Nat} {g : G} {r : Nat} {xs : List D} (h : mutOf (.ref a) g = some (r, xs)) : r = a ∧ g[a]? = some (.lst xs) := by
  unfold mutOf at h
  dsimp only at h
  split at h
  · rename_i ys e; cases h; exact ⟨rfl, e⟩
  · cases h
theorem mutOf_inv {d : D} {g : G} {r : Nat} {xs : List D} (h : mutOf d g = some (r, xs)) : d = .ref r ∧ g[r]? = some (.lst xs) := by
  cases d with
  | ref a => obtain ⟨e, q⟩ := mutOf_ref h; subst e; exact ⟨rfl, q⟩
  | _ => cases h
section
variable {X : Cx}
theorem newL_post {K : PySem.W.Frag} {H : Hp} {ι : List Addr} {g : G} {xs : List D} {vs : List V} {Q : VK} (s : SR_ K H ι g) (r : Reps K H ι xs vs)
    (k : ∀ v H' ι', Ext K H H' ι ι' → SR_ K H' ι' (g ++ [.lst xs]) → Rep K H' ι' (.ref g.length) v → Q v H') : ∀ p, H p = none → Q (.ref p) (upd H p (.lst vs)) := fun q hq =>
  k _ _ (ι ++ [q]) ((Ext.new hq).trans Ext.snoc) (s.newL hq r) (.ref (by rw [← s.len]; simp))
theorem newT_post {K : PySem.W.Frag} {H : Hp} {ι : List Addr} {g : G} {xs : List D} {vs : List V} {Q : VK} (s : SR_ K H ι g) (r : Reps K H ι xs vs)
    (k : ∀ v H' ι', Ext K H H' ι ι' → SR_ K H' ι' g → Rep K H' ι' (.tup xs) v → Q v H') : ∀ p, H p = none → Q (.ref p) (upd H p (.tup vs)) := fun q hq =>
  k _ _ ι (Ext.new hq) (s.new hq) (.tup (SqT.of upd_same) (r.ext (Ext.new hq)))
theorem o_add : OpR X (binaryOp .Add) (rD X.K oAdd) := by
  intro pins s σ H x y v u Q I rx ry h
  obtain ⟨d1, d2, g, ι, sr, r1, r2, d, g', e, k⟩ := h
  cases r1 with
  | int i =>
    cases r2 with
    | int j => cases e; exact op_add pins s σ H _ _ v u Q I rx ry ⟨i, j, rfl, rfl, k _ H ι Ext.refl sr (.int _)⟩
    | _ => simp [oAdd] at e
  | str a =>
    cases r2 with
    | str b =>
      unfold oAdd at e
      dsimp only at e
      split at e
      · rename_i hl
        cases e
        refine op_add_str pins s σ H _ _ v u Q I rx ry ⟨_, _, rfl, rfl, by rw [sS_length, sS_length, line_eq]; exact hl, ?_⟩
        rw [sS_append]
        exact k _ H ι Ext.refl sr (.str _)
      · cases e
    | _ => simp [oAdd] at e
  | @tup ds vs a hd rd =>
    cases r2 with
    | @tup es ws b he re =>
      unfold oAdd at e
      dsimp only at e
      split at e
      · rename_i hl
        cases e
        refine op_catA pins s σ H _ _ v u Q I rx ry ⟨a, b, vs, ws, rfl, rfl, hd, he, by rw [← rd.len, ← re.len, line_eq]; exact hl, fun z => ?_, fun z1 z2 => ?_, fun z1 z2 => ?_⟩
        · have : ds = [] := List.eq_nil_of_length_eq_zero (by rw [rd.len, z]; rfl)
          subst this
          exact k _ H ι Ext.refl sr (.tup he re)
        · have : es = [] := List.eq_nil_of_length_eq_zero (by rw [re.len, z2]; rfl)
          subst this
          rw [List.append_nil] at k
          exact k _ H ι Ext.refl sr (.tup hd rd)
        · exact newT_post sr (rd.append re) k
      · cases e
    | _ => simp [oAdd] at e
  | @ref r a ha =>
    cases r2 with
    | @ref r' b hb =>
      unfold oAdd at e
      dsimp only at e
      split at e
      · rename_i _ _ q1 xs q2 ys m1 m2
        obtain ⟨_, g1⟩ := mutOf_ref m1
        obtain ⟨_, g2⟩ := mutOf_ref m2
        obtain ⟨vs, h1, rr1⟩ := sr.lst ha g1
        obtain ⟨ws, h2, rr2⟩ := sr.lst hb g2
        split at e
        · rename_i hl
          cases e
          exact op_cat pins s σ H _ _ v u Q I rx ry ⟨a, b, vs, ws, rfl, rfl, h1, h2, by rw [← rr1.len, ← rr2.len, line_eq]; exact hl, newL_post sr (rr1.append rr2) k⟩
        · cases e
      · cases e
    | _ => simp [oAdd] at e
  | _ => simp [oAdd] at e
theorem o_sub : OpR X (binaryOp .Sub) (rD X.K oSub) := by
  intro pins s σ H x y v u Q I rx ry h
  obtain ⟨d1, d2, g, ι, sr, r1, r2, d, g', e, k⟩ := h
  cases r1 with
  | int i =>
    cases r2 with
    | int j => cases e; exact op_sub pins s σ H _ _ v u Q I rx ry ⟨i, j, rfl, rfl, k _ H ι Ext.refl sr (.int _)⟩
    | _ => simp [oSub] at e
  | _ => simp [oSub] at e
theorem mulOk_ok {i j : Int} (h : mulOk i j = true) : PySem.IntMulOk i j := by
  unfold mulOk at h
  rw [Bool.or_eq_true, Bool.or_eq_true] at h
  have sh : ∀ x : Int, short x = true → Builtin.Int.intBits x ≤ 64 := fun x z => by
    have z' := of_decide_eq_true z
    exact PySem.intBits_le_64 (by omega) (by omega)
  rcases h with h | h | h
  · have b : ∀ x : Int, Builtin.Int.intBits x ≤ x.natAbs.log2 + 1 := fun x => by
      unfold Builtin.Int.intBits
      split <;> omega
    have h1 := b i
    have h2 := b j
    have h3 : i.natAbs.log2 + j.natAbs.log2 < 100000000 := of_decide_eq_true h
    have e : bitsLine = 134217728 := by decide
    unfold PySem.IntMulOk
    intro z
    rw [Bool.and_eq_true] at z
    have z2 := z.2
    unfold Builtin.Int.intTooBig at z2
    have z3 := of_decide_eq_true z2
    rw [e] at z3
    omega
  · exact .of_left (sh i h)
  · exact .of_right (sh j h)
theorem o_mulI : OpR X (binaryOp .Mult) (rI (fun i j => mulOk i j = true) fun i j => .int (i * j)) := opI fun i j _ _ _ _ _ hc q => PyProof.Rows.mul_int q (mulOk_ok hc)
theorem foldl_cat (n : Nat) (x : Array Nat) : ∀ z : Array Nat, ((List.replicate n x).foldl (· ++ ·) z) = z ++ (List.replicate n x.toList).flatten.toArray := by
  induction n with
  | zero => intro z; simp
  | succ n ih => intro z; rw [List.replicate_succ, List.foldl_cons, ih, List.replicate_succ, List.flatten_cons]; simp only [Array.append_assoc]; congr 1; apply Array.toList_inj.mp; simp
theorem txt_mul {a : List Char} {n : Int} (h : 2 ≤ n) : Txt.mul (sS a) n = sS (List.replicate n.toNat a).flatten := by
  unfold Txt.mul
  rw [if_neg (by omega)]
  split
  · rename_i z
    rw [Bool.or_eq_true] at z
    rcases z with z | z
    · simp at z; omega
    · have z' : (sS a).length = 0 := by simpa using z
      rw [sS_length] at z'
      have : a = [] := List.eq_nil_of_length_eq_zero z'
      subst this
      congr 1
      induction n.toNat with
      | zero => rfl
      | succ m ih => rw [List.replicate_succ, List.flatten_cons, List.nil_append]; exact ih
  · rw [foldl_cat]
    unfold sS
    congr 1
    simp [List.map_flatten, List.map_replicate]
theorem o_mulS : OpR X (binaryOp .Mult) (fun x y H Q => ∃ a n, x = .str (sS a) ∧ y = .int n ∧ 2 ≤ n ∧ n ≤ 1000 ∧ a.length ≤ 1000 ∧ Q (.str (sS (List.replicate n.toNat a).flatten)) H) := by
  intro pins s σ H x y v u Q I rx ry h
  obtain ⟨a, n, rfl, rfl, h1, h2, h3, q⟩ := h
  obtain ⟨t, rfl⟩ := rx
  obtain ⟨t', rfl⟩ := ry
  have hprod : (a.length : Int) * n ≤ 1000000 := by
    have a1 : (a.length : Int) * n ≤ 1000 * n := Int.mul_le_mul_of_nonneg_right (by omega) (by omega)
    omega
  refine SB.mul ⟨?_, fun z1 z2 => ?_, fun z1 z2 => ?_⟩ fun t' k => ?_
  · rw [Bool.or_eq_false_iff]
    exact ⟨decide_eq_false (by omega), decide_eq_false (by omega)⟩
  · rw [sS_length]
    have : (a.length : Int) ≤ (2 ^ 63 - 1) / n := by
      rw [Int.le_ediv_iff_mul_le (by omega)]
      omega
    omega
  · rw [sS_length]
    unfold Builtin.Str.tooLong
    have : a.length * n.toNat ≤ 1000 * 1000 := Nat.mul_le_mul h3 (by omega)
    have e := line_eq
    unfold LINE at e
    simp only [decide_eq_false_iff_not]
    omega
  · rw [txt_mul h1]
    exact ⟨.str (sS (List.replicate n.toNat a).flatten), H, I.tok k, ⟨t', rfl⟩, q⟩
theorem o_mul : OpR X (binaryOp .Mult) (rD X.K oMul) := by
  intro pins s σ H x y v u Q I rx ry h
  obtain ⟨d1, d2, g, ι, sr, r1, r2, d, g', e, k⟩ := h
  cases r2 with
  | int j =>
    cases r1 with
    | int i =>
      unfold oMul at e
      dsimp only at e
      split at e
      · rename_i hc
        cases e
        exact o_mulI pins s σ H _ _ v u Q I rx ry ⟨i, j, rfl, rfl, hc, k _ H ι Ext.refl sr (.int _)⟩
      · cases e
    | str a =>
      unfold oMul at e
      dsimp only at e
      split at e
      · rename_i hc
        cases e
        exact o_mulS pins s σ H _ _ v u Q I rx ry ⟨a, j, rfl, rfl, hc.1, hc.2.1, hc.2.2, k _ H ι Ext.refl sr (.str _)⟩
      · cases e
    | @tup ds vs a hd rd =>
      unfold oMul at e
      dsimp only at e
      split at e
      · rename_i hc
        cases e
        have hr : Reps X.K H ι (List.replicate j.toNat ds).flatten (List.replicate j.toNat vs).flatten := by
          induction j.toNat with
          | zero => exact .nil
          | succ m ih => rw [List.replicate_succ, List.replicate_succ, List.flatten_cons, List.flatten_cons]; exact rd.append ih
        exact op_repT pins s σ H _ _ v u Q I rx ry ⟨a, j, vs, rfl, rfl, hd, fun z => hc.2.2.2 (by rw [rd.len, z]; rfl), hc.1, hc.2.1, by rw [← rd.len]; exact hc.2.2.1, newT_post sr hr k⟩
      · cases e
    | @ref r a ha =>
      unfold oMul at e
      dsimp only at e
      split at e
      · rename_i q1 xs m1
        obtain ⟨_, g1⟩ := mutOf_ref m1
        obtain ⟨vs, h1, rr1⟩ := sr.lst ha g1
        split at e
        · rename_i hc
          cases e
          have hr : Reps X.K H ι (List.replicate j.toNat xs).flatten (List.replicate j.toNat vs).flatten := by
            induction j.toNat with
            | zero => exact .nil
            | succ m ih => rw [List.replicate_succ, List.replicate_succ, List.flatten_cons, List.flatten_cons]; exact rr1.append ih
          exact op_rep pins s σ H _ _ v u Q I rx ry ⟨a, j, vs, rfl, rfl, h1, by omega, by omega, by rw [← rr1.len, line_eq]; exact hc.2.2, newL_post sr hr k⟩
        · cases e
      · cases e
    | _ => simp [oMul] at e
  | _ => cases r1 <;> simp [oMul] at e
theorem o_fdiv : OpR X (binaryOp .FloorDiv) (rD X.K oFdiv) := by
  intro pins s σ H x y v u Q I rx ry h
  obtain ⟨d1, d2, g, ι, sr, r1, r2, d, g', e, k⟩ := h
  cases r1 with
  | int i =>
    cases r2 with
    | int j =>
      unfold oFdiv at e
      dsimp only at e
      split at e
      · rename_i hc
        cases e
        exact op_fdivW pins s σ H _ _ v u Q I rx ry ⟨i, j, rfl, rfl, hc, k _ H ι Ext.refl sr (.int _)⟩
      · cases e
    | _ => simp [oFdiv] at e
  | _ => simp [oFdiv] at e
theorem o_mod : OpR X (binaryOp .Mod) (rD X.K oMod) := by
  intro pins s σ H x y v u Q I rx ry h
  obtain ⟨d1, d2, g, ι, sr, r1, r2, d, g', e, k⟩ := h
  cases r1 with
  | int i =>
    cases r2 with
    | int j =>
      unfold oMod at e
      dsimp only at e
      split at e
      · rename_i hc
        cases e
        exact op_mod pins s σ H _ _ v u Q I rx ry ⟨i, j, rfl, rfl, hc, k _ H ι Ext.refl sr (.int _)⟩
      · cases e
    | _ => simp [oMod] at e
  | _ => simp [oMod] at e
theorem intBits_le (x : Int) : Builtin.Int.intBits x ≤ x.natAbs.log2 + 1 := by
  unfold Builtin.Int.intBits
  split <;> omega
theorem o_powI : OpR X (binaryOp .Pow) (rI (fun i j => powOk i j = true) fun i j => .int (i ^ j.toNat)) := opI fun i j _ _ _ _ _ hc q => by
  have hc' : 0 ≤ j ∧ ((i.natAbs.log2 + 1 : Nat) : Int) * j ≤ 134217728 := of_decide_eq_true hc
  refine PyProof.Rows.pow_int hc'.1 ?_ q
  have h1 := intBits_le i
  have h2 : ((Builtin.Int.intBits i : Nat) : Int) * j ≤ ((i.natAbs.log2 + 1 : Nat) : Int) * j := Int.mul_le_mul_of_nonneg_right (by omega) hc'.1
  have : (2 : Int) ^ 27 = 134217728 := by decide
  omega
theorem o_pow : OpR X (binaryOp .Pow) (rD X.K oPow) := by
  intro pins s σ H x y v u Q I rx ry h
  obtain ⟨d1, d2, g, ι, sr, r1, r2, d, g', e, k⟩ := h
  cases r1 with
  | int i =>
    cases r2 with
    | int j =>
      unfold oPow at e
      dsimp only at e
      split at e
      · rename_i hc
        cases e
        exact o_powI pins s σ H _ _ v u Q I rx ry ⟨i, j, rfl, rfl, hc, k _ H ι Ext.refl sr (.int _)⟩
      · cases e
    | _ => simp [oPow] at e
  | _ => simp [oPow] at e
theorem o_neg : UnR X (unaryOp .USub) (rD1 X.K oNeg) := by
  intro pins s σ H x v Q I rx h
  obtain ⟨d1, g, ι, sr, r1, d, g', e, k⟩ := h
  cases r1 with
  | int i => cases e; exact un_neg pins s σ H _ v Q I rx ⟨i, rfl, k _ H ι Ext.refl sr (.int _)⟩
  | _ => simp [oNeg] at e
/-! ### comparisons -/
theorem o_int {op : CmpOp} {p : Int → Int → Bool} {f : B2} (h : OpR X (compareOp op) (rI0 fun i j => .bl (p i j))) (hf : ∀ x y g d, f x y g = some d → ∃ i j, x = .int i ∧ y = .int j ∧ d = .bl (p i j)) : OpR X (compareOp op) (rD X.K (p2 f)) := by
  intro pins s σ H x y v u Q I rx ry q
  obtain ⟨d1, d2, g, ι, sr, r1, r2, d, e, k⟩ := q.pure
  obtain ⟨i, j, rfl, rfl, rfl⟩ := hf _ _ _ _ e
  cases r1
  cases r2
  exact h pins s σ H _ _ v u Q I rx ry ⟨i, j, rfl, rfl, k _ (.bl _)⟩
theorem o_lt : OpR X (compareOp .Lt) (rD X.K (p2 oLt)) := o_int op_lt fun x y g d h => by
  cases x <;> cases y <;> simp [oLt] at h
  exact ⟨_, _, rfl, rfl, h.symm⟩
theorem o_le : OpR X (compareOp .LtE) (rD X.K (p2 oLe)) := o_int op_le fun x y g d h => by
  cases x <;> cases y <;> simp [oLe] at h
  exact ⟨_, _, rfl, rfl, h.symm⟩
theorem o_gt : OpR X (compareOp .Gt) (rD X.K (p2 oGt)) := o_int op_gt fun x y g d h => by
  cases x <;> cases y <;> simp [oGt] at h
  exact ⟨_, _, rfl, rfl, h.symm⟩
theorem o_ge : OpR X (compareOp .GtE) (rD X.K (p2 oGe)) := o_int op_ge fun x y g d h => by
  cases x <;> cases y <;> simp [oGe] at h
  exact ⟨_, _, rfl, rfl, h.symm⟩
theorem rep_non {K H ι} {d : D} {v : V} (r : Rep K H ι d v) : (v = .non ↔ d = .non) := by
  cases r <;> simp
theorem o_isN : OpR X (compareOp .Is) (rD X.K (p2 oIsN)) := by
  intro pins s σ H x y v u Q I rx ry q
  obtain ⟨d1, d2, g, ι, sr, r1, r2, d, e, k⟩ := q.pure
  cases d2 with
  | non =>
    cases r2
    refine op_isN pins s σ H _ _ v u Q I rx ry ⟨rfl, ?_⟩
    have hb : d = .bl (decide (x = .non)) := by
      have z := rep_non r1
      cases r1 <;> simp [oIsN] at e ⊢ <;> exact e.symm
    subst hb
    exact k _ (.bl _)
  | _ => cases d1 <;> simp [oIsN] at e
theorem o_notN : OpR X (compareOp .IsNot) (rD X.K (p2 oNotN)) := by
  intro pins s σ H x y v u Q I rx ry q
  obtain ⟨d1, d2, g, ι, sr, r1, r2, d, e, k⟩ := q.pure
  cases d2 with
  | non =>
    cases r2
    refine op_notN pins s σ H _ _ v u Q I rx ry ⟨rfl, ?_⟩
    have hb : d = .bl (!decide (x = .non)) := by
      have z := rep_non r1
      cases r1 <;> simp [oNotN] at e ⊢ <;> exact e.symm
    subst hb
    exact k _ (.bl _)
  | _ => cases d1 <;> simp [oNotN] at e
end
end Py
end

section
set_option Elab.async false
set_option linter.all false
set_option maxRecDepth 100000
set_option autoImplicit false
/-! Soundness of == and in. -/
namespace Py
open PySem L2

mutual
def P.py : P → PyData
  | .non => .none
  | .bl b => .bool b
  | .int i => .int i
  | .str s => .str (sS s)
  | .tup ds => .tuple (P.pys ds)
  | .lst ds => .list (P.pys ds)
  | .scr ds => .list (P.pys ds)
  | .dct _ _ => .none
  | .ins _ _ _ => .none
def P.pys : List P → List PyData
  | [] => []
  | p :: r => P.py p :: P.pys r
end
theorem sS_beq (s t : List Char) : (sS s == sS t) = (s == t) := by
  by_cases h : s = t
  · subst h; simp
  · rw [beq_eq_false_iff_ne.mpr h]
    exact beq_eq_false_iff_ne.mpr fun e => h (sS_inj e)
mutual
theorem P.eqv_py : ∀ p q : P, PyData.eqv p.py q.py = P.eqv p q
  | .non, q => by cases q <;> simp [P.py, PyData.eqv, P.eqv]
  | .bl a, q => by cases q <;> simp [P.py, PyData.eqv, P.eqv, b2i]
  | .int a, q => by cases q <;> simp [P.py, PyData.eqv, P.eqv, b2i]
  | .str a, q => by
    cases q with
    | str b => simp only [P.py, PyData.eqv, P.eqv]; exact sS_beq a b
    | _ => simp [P.py, PyData.eqv, P.eqv]
  | .tup a, q => by
    cases q with
    | tup b => simp only [P.py, PyData.eqv, P.eqv]; exact P.eqvs_py a b
    | _ => simp [P.py, PyData.eqv, P.eqv]
  | .lst a, q => by
    cases q with
    | lst b => simp only [P.py, PyData.eqv, P.eqv]; exact P.eqvs_py a b
    | scr b => simp only [P.py, PyData.eqv, P.eqv]; exact P.eqvs_py a b
    | _ => simp [P.py, PyData.eqv, P.eqv]
  | .scr a, q => by
    cases q with
    | lst b => simp only [P.py, PyData.eqv, P.eqv]; exact P.eqvs_py a b
    | scr b => simp only [P.py, PyData.eqv, P.eqv]; exact P.eqvs_py a b
    | _ => simp [P.py, PyData.eqv, P.eqv]
  | .dct _ _, q => by cases q <;> simp [P.py, PyData.eqv, P.eqv]
  | .ins _ _ _, q => by cases q <;> simp [P.py, PyData.eqv, P.eqv]
theorem P.eqvs_py : ∀ p q : List P, PyData.eqvAll (P.pys p) (P.pys q) = P.eqvs p q
  | [], q => by cases q <;> simp [P.pys, PyData.eqvAll, P.eqvs]
  | p :: r, q => by
    cases q with
    | nil => simp [P.pys, PyData.eqvAll, P.eqvs]
    | cons q s => simp only [P.pys, PyData.eqvAll, P.eqvs]; rw [P.eqv_py p q, P.eqvs_py r s]
end
theorem char_lt (c : Char) : c.toNat < 1114112 := by
  have h := c.valid
  have e : c.toNat = c.val.toNat := rfl
  simp only [UInt32.isValidChar, Nat.isValidChar] at h
  omega
mutual
theorem P.lay : ∀ p : P, p.py.canLay0 = true
  | .non => by simp [P.py, PyData.canLay0]
  | .bl _ => by simp [P.py, PyData.canLay0]
  | .int _ => by simp [P.py, PyData.canLay0]
  | .str s => by
    simp only [P.py, PyData.canLay0]
    unfold PyData.strOk
    rw [Array.all_eq_true_iff_forall_mem]
    intro c hc
    simp [sS] at hc
    obtain ⟨a, _, rfl⟩ := hc
    exact decide_eq_true (char_lt a)
  | .tup ds => by simp only [P.py, PyData.canLay0]; exact P.lays ds
  | .lst ds => by simp only [P.py, PyData.canLay0]; exact P.lays ds
  | .scr ds => by simp only [P.py, PyData.canLay0]; exact P.lays ds
  | .dct _ _ => by simp [P.py, PyData.canLay0]
  | .ins _ _ _ => by simp [P.py, PyData.canLay0]
theorem P.lays : ∀ p : List P, PyData.canLayAll0 (P.pys p) = true
  | [] => by simp [P.pys, PyData.canLayAll0]
  | p :: r => by simp only [P.pys, PyData.canLayAll0, P.lay p, P.lays r, Bool.and_self]
end
theorem viewL_some {f : D → Option P} {d : D} {ds : List D} {ps : List P} (h : viewL f (d :: ds) = some ps) : ∃ p qs, ps = p :: qs ∧ f d = some p ∧ viewL f ds = some qs := by
  unfold viewL at h
  split at h
  · rename_i p qs h1 h2; cases h; exact ⟨p, qs, rfl, h1, h2⟩
  · cases h
theorem depth_view (g : G) : ∀ (n : Nat) (d : D) (p : P), view g n d = some p → p.py.depth ≤ n := by
  intro n
  induction n with
  | zero =>
    intro d p h
    cases d <;> simp [view] at h <;> subst h <;> simp [P.py, PyData.depth]
  | succ n ih =>
    have all : ∀ (ds : List D) (ps : List P), viewL (view g n) ds = some ps → PyData.depthAll (P.pys ps) ≤ n := by
      intro ds
      induction ds with
      | nil => intro ps h; cases h; simp [P.pys, PyData.depthAll]
      | cons d ds ih2 =>
        intro ps h
        obtain ⟨p, qs, rfl, h1, h2⟩ := viewL_some h
        simp only [P.pys, PyData.depthAll]
        exact Nat.max_le.mpr ⟨ih d p h1, ih2 qs h2⟩
    intro d p h
    cases d with
    | tup ds =>
      simp only [view, Option.map_eq_some_iff] at h
      obtain ⟨ps, h1, rfl⟩ := h
      simp only [P.py, PyData.depth]
      have := all ds ps h1
      omega
    | ref r =>
      simp only [view] at h
      split at h
      · simp only [Option.map_eq_some_iff] at h
        obtain ⟨ps, h1, rfl⟩ := h
        simp only [P.py, PyData.depth]
        have := all _ ps h1
        omega
      · cases h
    | adr _ => simp [view] at h
    | _ => simp [view] at h; subst h; simp [P.py, PyData.depth]
theorem depth_views (g : G) (n : Nat) (ds : List D) (ps : List P) (h : viewL (view g n) ds = some ps) : PyData.depthAll (P.pys ps) ≤ n := by
  induction ds generalizing ps with
  | nil => cases h; simp [P.pys, PyData.depthAll]
  | cons d ds ih2 =>
    obtain ⟨p, qs, rfl, h1, h2⟩ := viewL_some h
    simp only [P.pys, PyData.depthAll]
    exact Nat.max_le.mpr ⟨depth_view g n d p h1, ih2 qs h2⟩
section
variable {K : PySem.W.Frag} {H : Hp} {ι : List Addr} {g : G}
theorem dp_view (s : SR_ K H ι g) : ∀ (n : Nat) (d : D) (p : P) (v : V), view g n d = some p → Rep K H ι d v → Dp K H v p.py := by
  intro n
  induction n with
  | zero =>
    intro d p v h r
    cases r <;> simp [view] at h <;> subst h
    · exact .non
    · exact .bl _
    · exact .int _
    · exact .str _
  | succ n ih =>
    have all : ∀ (ds : List D) (ps : List P) (vs : List V), viewL (view g n) ds = some ps → Reps K H ι ds vs → DpAll K H vs (P.pys ps) := by
      intro ds
      induction ds with
      | nil => intro ps vs h r; cases r; cases h; exact .nil
      | cons d ds ih2 =>
        intro ps vs h r
        obtain ⟨p, qs, rfl, h1, h2⟩ := viewL_some h
        cases r with
        | cons r1 r2 => exact .cons (ih d p _ h1 r1) (ih2 qs _ h2 r2)
    intro d p v h r
    cases r with
    | adr _ => simp [view] at h
    | non => simp [view] at h; subst h; exact .non
    | bl b => simp [view] at h; subst h; exact .bl _
    | int b => simp [view] at h; subst h; exact .int _
    | str b => simp [view] at h; subst h; exact .str _
    | tup hs hr =>
      simp only [view, Option.map_eq_some_iff] at h
      obtain ⟨ps, h1, rfl⟩ := h
      exact .tup hs (all _ ps _ h1 hr)
    | @ref r a ha =>
      simp only [view] at h
      split at h
      · rename_i xs hx
        simp only [Option.map_eq_some_iff] at h
        obtain ⟨ps, h1, rfl⟩ := h
        obtain ⟨a', vs, e, hs, hr⟩ := s.list (.ref ha) hx
        cases e
        exact .lst hs (all _ ps _ h1 hr)
      · cases h
theorem dp_views (s : SR_ K H ι g) (n : Nat) (ds : List D) (ps : List P) (vs : List V) (h : viewL (view g n) ds = some ps) (r : Reps K H ι ds vs) : DpAll K H vs (P.pys ps) := by
  induction ds generalizing ps vs with
  | nil => cases r; cases h; exact .nil
  | cons d ds ih =>
    obtain ⟨p, qs, rfl, h1, h2⟩ := viewL_some h
    cases r with
    | cons r1 r2 => exact .cons (dp_view s n d p _ h1 r1) (ih qs _ h2 r2)
end
theorem shaped_view {g : G} {d : D} {p : P} (h : view g 60 d = some p) : SeqAt.shaped p.py = true := by
  unfold SeqAt.shaped
  rw [P.lay p, Bool.true_and]
  have := depth_view g 60 d p h
  exact decide_eq_true (by omega)
theorem shaped_views {g : G} {ds : List D} {ps : List P} (h : viewL (view g 60) ds = some ps) : SeqAt.shaped (.list (P.pys ps)) = true := by
  unfold SeqAt.shaped
  simp only [PyData.canLay0, P.lays ps, Bool.true_and, PyData.depth]
  have := depth_views g 60 ds ps h
  exact decide_eq_true (by omega)
theorem any_py (p : P) : ∀ ps : List P, ((P.pys ps).any fun z => PyData.eqv z p.py) = ps.any fun q => P.eqv q p
  | [] => by simp [P.pys]
  | q :: r => by simp only [P.pys, List.any_cons]; rw [P.eqv_py q p, any_py p r]
section
variable {X : Cx}
theorem o_eq {k : Nat} (hr : Room k X.A) : OpR X (compareOp .Eq) (rD X.K (p2 oEq)) := by
  intro pins s σ H x y v u Q I rx ry q
  obtain ⟨d1, d2, g, ι, sr, r1, r2, d, e, k⟩ := q.pure
  simp only [oEq, Option.map_eq_some_iff, eqD] at e
  obtain ⟨b, e, rfl⟩ := e
  split at e
  · rename_i p q h1 h2
    cases e
    refine op_eqD hr.units pins s σ H _ _ v u Q I rx ry ⟨p.py, q.py, dp_view sr 60 _ _ _ h1 r1, dp_view sr 60 _ _ _ h2 r2, shaped_view h1, shaped_view h2, ?_⟩
    rw [P.eqv_py]
    exact k _ (.bl _)
  · cases e
theorem o_ne {k : Nat} (hr : Room k X.A) : OpR X (compareOp .NotEq) (rD X.K (p2 oNe)) := by
  intro pins s σ H x y v u Q I rx ry q
  obtain ⟨d1, d2, g, ι, sr, r1, r2, d, e, k⟩ := q.pure
  simp only [oNe, Option.map_eq_some_iff, eqD] at e
  obtain ⟨b, e, rfl⟩ := e
  split at e
  · rename_i p q h1 h2
    cases e
    refine op_neD hr.units pins s σ H _ _ v u Q I rx ry ⟨p.py, q.py, dp_view sr 60 _ _ _ h1 r1, dp_view sr 60 _ _ _ h2 r2, shaped_view h1, shaped_view h2, ?_⟩
    rw [P.eqv_py]
    exact k _ (.bl _)
  · cases e
theorem flat_rep {K H ι} {d : D} {v : V} (r : Rep K H ι d v) : flatV v = true ↔ flat d = true := by
  cases r <;> simp [flatV, flat]
theorem dec_sS (a b : List Char) : (sS a == sS b) = (a == b) := sS_beq a b
theorem eqF_rep {K H ι} {d e : D} {v u : V} (r : Rep K H ι d v) (q : Rep K H ι e u) : eqV v u = eqF d e := by
  cases r <;> cases q <;> simp [eqV, eqF, b2i]
  exact sS_beq _ _
theorem inF_rep {K H ι} {d : D} {v : V} (r : Rep K H ι d v) : ∀ {ds : List D} {vs : List V}, Reps K H ι ds vs → inV v vs = ds.any fun y => eqF y d
  | _, _, .nil => rfl
  | _, _, .cons h t => by
    have ih := inF_rep r t
    unfold inV at ih ⊢
    rw [List.any_cons, List.any_cons, eqF_rep h r, ih]
theorem flats_rep {K H ι} : ∀ {ds : List D} {vs : List V}, Reps K H ι ds vs → ds.all flat = true → vs.all flatV = true
  | _, _, .nil, _ => rfl
  | _, _, .cons h t, f => by
    rw [List.all_cons, Bool.and_eq_true] at f ⊢
    exact ⟨(flat_rep h).mpr f.1, flats_rep t f.2⟩
/-- in, in three kinds -/
theorem in_cases {g : G} {x y : D} {b : Bool} (h : inD x y g = some b) : (∃ c t, x = .str [c] ∧ y = .str t ∧ b = decide (c ∈ t)) ∨
    (∃ ds, y = .tup ds ∧ flat x = true ∧ ds.all flat = true ∧ b = ds.any fun z => eqF z x) ∨
    (∃ r xs p ps, y = .ref r ∧ lstOf (.ref r) g = some xs ∧ view g 60 x = some p ∧ viewL (view g 60) xs = some ps ∧ b = ps.any fun q => P.eqv q p) := by
  unfold inD at h
  split at h
  · cases h; exact .inl ⟨_, _, rfl, rfl, rfl⟩
  · split at h
    · rename_i hf
      rw [Bool.and_eq_true] at hf
      cases h
      exact .inr (.inl ⟨_, rfl, hf.1, hf.2, rfl⟩)
    · cases h
  · split at h
    · rename_i xs h1
      split at h
      · rename_i p ps h2 h3
        cases h
        exact .inr (.inr ⟨_, xs, p, ps, rfl, h1, h2, h3, rfl⟩)
      · cases h
    · cases h
  · cases h
theorem mem_sign {c : Char} {t : List Char} : (c.toNat ∈ (sS t).cps.toList) ↔ c ∈ t := by
  rw [sS_list]
  constructor
  · intro h
    obtain ⟨a, ha, e⟩ := List.mem_map.mp h
    rw [← toNat_inj e]; exact ha
  · exact fun h => List.mem_map_of_mem h
theorem sS_one (c : Char) : sS [c] = ⟨#[c.toNat]⟩ := rfl
theorem o_in {k : Nat} (hr : Room k X.A) : OpR X (compareOp .In) (rD X.K (p2 oIn)) := by
  intro pins s σ H x y v u Q I rx ry q
  obtain ⟨d1, d2, g, ι, sr, r1, r2, d, e, k⟩ := q.pure
  simp only [oIn, Option.map_eq_some_iff] at e
  obtain ⟨b, e, rfl⟩ := e
  rcases in_cases e with ⟨c, t, rfl, rfl, rfl⟩ | ⟨ds, rfl, f1, f2, rfl⟩ | ⟨r, xs, p, ps, rfl, h1, h2, h3, rfl⟩
  · cases r1
    cases r2
    refine op_in_sign pins s σ H _ _ v u Q I rx ry ⟨c.toNat, sS t, rfl, rfl, ?_⟩
    rw [decide_eq_decide.mpr mem_sign]
    exact k _ (.bl _)
  · cases r2 with
    | tup ht hd =>
      refine op_in_seq pins s σ H _ _ v u Q I rx ry ⟨_, _, rfl, .inr ht, (flat_rep r1).mpr f1, flats_rep hd f2, ?_⟩
      rw [if_neg Bool.false_ne_true, inF_rep r1 hd]
      exact k _ (.bl _)
  · obtain ⟨a, vs, rfl, hs, hrr⟩ := sr.list r2 h1
    refine op_inD (by have := hr.un; omega) pins s σ H _ _ v u Q I rx ry ⟨p.py, P.pys ps, dp_view sr 60 _ _ _ h2 r1, .lst hs (dp_views sr 60 _ _ _ h3 hrr), shaped_view h2, shaped_views h3, ?_⟩
    rw [any_py]
    exact k _ (.bl _)
theorem o_notIn {k : Nat} (hr : Room k X.A) : OpR X (compareOp .NotIn) (rD X.K (p2 oNotIn)) := by
  intro pins s σ H x y v u Q I rx ry q
  obtain ⟨d1, d2, g, ι, sr, r1, r2, d, e, k⟩ := q.pure
  simp only [oNotIn, Option.map_eq_some_iff] at e
  obtain ⟨b, e, rfl⟩ := e
  rcases in_cases e with ⟨c, t, rfl, rfl, rfl⟩ | ⟨ds, rfl, f1, f2, rfl⟩ | ⟨r, xs, p, ps, rfl, h1, h2, h3, rfl⟩
  · cases r1
    cases r2
    refine op_notIn_sign pins s σ H _ _ v u Q I rx ry ⟨c.toNat, sS t, rfl, rfl, ?_⟩
    rw [decide_eq_decide.mpr mem_sign]
    exact k _ (.bl _)
  · cases r2 with
    | tup ht hd =>
      refine op_notIn_seq pins s σ H _ _ v u Q I rx ry ⟨_, _, rfl, .inr ht, (flat_rep r1).mpr f1, flats_rep hd f2, ?_⟩
      rw [if_pos rfl, inF_rep r1 hd]
      exact k _ (.bl _)
  · obtain ⟨a, vs, rfl, hs, hrr⟩ := sr.list r2 h1
    refine op_notInD (by have := hr.un; omega) pins s σ H _ _ v u Q I rx ry ⟨p.py, P.pys ps, dp_view sr 60 _ _ _ h2 r1, .lst hs (dp_views sr 60 _ _ _ h3 hrr), shaped_view h2, shaped_views h3, ?_⟩
    rw [any_py]
    exact k _ (.bl _)
end
end Py
end

section
set_option Elab.async false
set_option linter.all false
set_option maxRecDepth 100000
set_option autoImplicit false
/-! Soundness of subscripts, slices, built-ins, append. -/
namespace Py
open PySem L2
section
variable {X : Cx} {W : WX} {a b c e : Expr} {es : List Expr} {pos : Pos} {ma mb mc m : M} {as : A}
theorem ix_eq (n : Nat) (i : Int) : L2.ixN n i = ix n i := rfl
theorem atI_rep {K H ι} {ds : List D} {vs : List V} {i : Int} {d : D} (r : Reps K H ι ds vs) (h : atI ds i = some d) : ∃ v, L2.atI vs i = some v ∧ Rep K H ι d v := by
  unfold atI at h
  unfold L2.atI
  rw [ix_eq, ← r.len]
  cases e : ix ds.length i with
  | none => rw [e] at h; cases h
  | some j =>
    rw [e] at h
    obtain ⟨v, h1, h2⟩ := r.get h
    exact ⟨v, h1, h2⟩
theorem i_idx : IxR X (rD X.K (p2 oIdx)) := by
  intro a b pins s σ H x y v u Q I rx ry q hs
  obtain ⟨d1, d2, g, ι, sr, r1, r2, d, e, k⟩ := q.pure
  cases d2 with
  | int i =>
    cases r2
    cases r1 with
    | str z =>
      unfold oIdx at e
      dsimp only at e
      split at e
      · rename_i hl
        simp only [Option.map_eq_some_iff] at e
        obtain ⟨c, h1, rfl⟩ := e
        refine ix_str a b pins s σ H _ _ v u Q I rx ry ⟨sS z, i, c.toNat, rfl, rfl, by rw [sS_length, line_eq]; exact hl, ?_, k _ (.str [c])⟩ hs
        rw [sS_list]
        unfold L2.atI
        unfold atI at h1
        rw [List.length_map, ix_eq]
        cases e : ix z.length i with
        | none => rw [e] at h1; cases h1
        | some j =>
          rw [e] at h1
          have h1' : z[j]? = some c := h1
          show (z.map Char.toNat)[j]? = some c.toNat
          rw [List.getElem?_map, h1']; rfl
      · cases e
    | @tup ds vs p ht hr =>
      have e : atI ds i = some d := e
      obtain ⟨w, h1, h2⟩ := atI_rep hr e
      exact ix_tup a b pins s σ H _ _ v u Q I rx ry ⟨p, vs, i, w, rfl, rfl, ht, h1, k _ h2⟩ hs
    | @ref r p hp =>
      have e : ((lstOf (.ref r) g).bind fun xs => atI xs i) = some d := e
      cases hl : lstOf (.ref r) g with
      | none => rw [hl] at e; cases e
      | some xs =>
        rw [hl] at e
        obtain ⟨a', vs, ee, hq, hr⟩ := sr.list (.ref hp) hl
        cases ee
        obtain ⟨w, h1, h2⟩ := atI_rep hr e
        exact ix_list a b pins s σ H _ _ v u Q I rx ry ⟨p, vs, i, w, rfl, rfl, hq, h1, k _ h2⟩ hs
    | _ => simp [oIdx] at e
  | _ => cases d1 <;> simp [oIdx] at e
theorem e_idx (ha : EE X W a ma) (hb : EE X W b mb) (hs : PlainIx b := by exact fun _ _ => rfl) : EE X W (.Subscript a b pos) (mOp (p2 oIdx) ma mb) := (pe_ix i_idx ha hb hs).mono fun _ _ _ h => two h
/-! ### slices -/
theorem sIx_eq (n d : Nat) (o : Option Int) : HT.sIx n d o = sIx n d o := by cases o <;> rfl
theorem cut_rep {K H ι} {ds : List D} {vs : List V} (r : Reps K H ι ds vs) (lo hi : Option Int) : Reps K H ι (cut ds lo hi) (cutV vs lo hi) := by
  unfold cut cutV
  rw [sIx_eq, sIx_eq, ← r.len]
  exact (r.drop _).take _
def rSl (K : PySem.W.Frag) : V → Option Int → Option Int → Hp → VK → Prop := fun x lo hi H Q => ∃ d1 g ι, SR_ K H ι g ∧ Rep K H ι d1 x ∧ ∃ d g', oSl d1 lo hi g = some (d, g') ∧ ∀ v H' ι', Ext K H H' ι ι' → SR_ K H' ι' g' → Rep K H' ι' d v → Q v H'
theorem i_sl : SlR X (rSl X.K) := by
  intro pins s σ H x v vl vu lo hi sl Q I rx hs pl pu h
  obtain ⟨d1, g, ι, sr, r1, d, g', e, k⟩ := h
  cases r1 with
  | str z =>
    unfold oSl at e
    dsimp only at e
    split at e
    · rename_i hl
      cases e
      refine sl_str pins s σ H _ v vl vu lo hi sl Q I rx hs pl pu ⟨sS z, rfl, by rw [sS_length, line_eq]; exact hl, ?_⟩
      have : cutS (sS z) lo hi = sS (cut z lo hi) := by
        unfold cutS sS cut
        rw [sIx_eq, sIx_eq]
        simp [Str.length, List.map_take, List.map_drop]
      rw [this]
      exact k _ H ι Ext.refl sr (.str _)
    · cases e
  | @tup ds vs p ht hr =>
    cases e
    refine sl_tupA pins s σ H _ v vl vu lo hi sl Q I rx hs pl pu ⟨p, vs, rfl, ht, fun hw => ?_, fun _ => newT_post sr (cut_rep hr lo hi) k⟩
    have : cut ds lo hi = ds := by
      unfold cut
      rw [← sIx_eq, ← sIx_eq, hr.len, hw.1, hw.2]
      simp [← hr.len]
    rw [this] at k
    exact k _ H ι Ext.refl sr (.tup ht hr)
  | @ref r p hp =>
    unfold oSl at e
    simp only [Option.map_eq_some_iff] at e
    obtain ⟨xs, h1, h2⟩ := e
    cases h2
    obtain ⟨a', vs, ee, hq, hr⟩ := sr.list (.ref hp) h1
    cases ee
    exact sl_list pins s σ H _ v vl vu lo hi sl Q I rx hs pl pu ⟨p, vs, rfl, hq, newL_post sr (cut_rep hr lo hi) k⟩
  | _ => simp [oSl] at e
/-- a part of a slice -/
def tO (K : PySem.W.Frag) (mg : Str → Option Value) (W : WX) (m : Option M) : TO := fun σ H Q => ∃ ρ g ι, ER K H ι ρ σ ∧ SR_ K H ι g ∧ Post K mg W σ H ι (mIx m ρ g) fun o _ H' _ => Q o H'
abbrev OO (X : Cx) (W : WX) (e : Option Expr) (m : Option M) : Prop := PO X e (tO X.K X.mg W m)
theorem oo_none : OO X W none none := ⟨fun pins s σ H Q I ⟨ρ, g, ι, er, sr, p⟩ => po_none.run pins s σ H Q I (p.ok sr)⟩
theorem oo_some (h : EE X W e m) : OO X W (some e) (some m) := ⟨fun pins s σ H Q I ⟨ρ, g, ι, er, sr, p⟩ => (po_some h).run pins s σ H Q I ⟨ρ, g, ι, er, sr, (Post.bind p).imp fun d1 g1 H1 ι1 _ x1 s1 p1 v1 r1 => by
  obtain ⟨i, hi, p2⟩ := Post.ofP' p1
  cases asI_some hi
  exact ⟨i, r1.int_inv, p2.ok s1⟩⟩⟩
theorem e_sl {lo hi : Option Expr} {ml mh : Option M} {p2 : Pos} (ha : EE X W a ma) (hl : OO X W lo ml) (hh : OO X W hi mh) : EE X W (.Subscript a (.Slice lo hi none p2) pos) (mSl ma ml mh) := (pe_slice i_sl ha hl hh).mono fun σ H Q ⟨ρ, g, ι, er, s, p⟩ => by
  refine ⟨ρ, g, ι, er, s, (Post.bind p).imp fun d1 g1 H1 ι1 _ x1 s1 p1 v1 r1 => ⟨ρ, g1, ι1, er.ext x1, s1, (Post.bind p1).imp fun l g2 H2 ι2 _ x2 s2 p2 => ⟨ρ, g2, ι2, (er.ext x1).ext x2, s2, (Post.bind p2).imp fun h g3 H3 ι3 _ x3 s3 p3 => ?_⟩⟩⟩
  obtain ⟨d, g', e, k⟩ := p3.ofO
  exact ⟨d1, g3, ι3, s3, (r1.ext x2).ext x3, d, g', e, fun v H' ι' x s' r => k H' ι' x s' v r⟩
/-! ### built-ins of one argument, of two -/
def rC1 (K : PySem.W.Frag) (f : N1) : List V → Hp → VK → Prop := fun xs H Q => ∃ x, xs = [x] ∧ rD1 K f x H Q
def rC2 (K : PySem.W.Frag) (f : N2) : List V → Hp → VK → Prop := fun xs H Q => ∃ x y, xs = [x, y] ∧ rD K f x y H Q
variable {x : Str} {p : Pos} {id T : String}
theorem e_b1 {f : N1} (hc : CallR X (.builtin id) (rC1 X.K f)) (hm : X.mg x = none) (hv : bootBuiltins x = some (.builtin id)) (ha : EE X W a ma) (hg : Gl X x := by rfl) (hn : x ≠ "__name__" := by decide) (hdb : (x == ("__debug__" : Str)) = false := by decide)
    (hs : starEach [a] X.env = (false, eval a X.env) :: starEach [] X.env := by rfl) : EE X W (.Call (.Name x p) [a] [] pos) (mUn f ma) :=
  (pe_callB hc hg hm hv (pa_cons ha pa_nil hs) hn hdb hs (by rfl)).mono fun σ H Q h => by
    obtain ⟨ρ, g, ι, er, s, p⟩ := one h
    exact ⟨ρ, g, ι, er, s, p.imp fun d1 g1 H1 ι1 _ x1 s1 p1 v1 r1 => ⟨v1, rfl, p1 v1 r1⟩⟩
theorem e_t1 {f : N1} (hc : CallR X (.type T) (rC1 X.K f)) (hm : X.mg x = none) (hv : bootBuiltins x = some (.type T)) (ha : EE X W a ma) (hg : Gl X x := by rfl) (hn : x ≠ "__name__" := by decide) (hdb : (x == ("__debug__" : Str)) = false := by decide)
    (hs : starEach [a] X.env = (false, eval a X.env) :: starEach [] X.env := by rfl) : EE X W (.Call (.Name x p) [a] [] pos) (mUn f ma) :=
  (pe_callTy hc hg hm hv (pa_cons ha pa_nil hs) hn hdb hs (by rfl)).mono fun σ H Q h => by
    obtain ⟨ρ, g, ι, er, s, p⟩ := one h
    exact ⟨ρ, g, ι, er, s, p.imp fun d1 g1 H1 ι1 _ x1 s1 p1 v1 r1 => ⟨v1, rfl, p1 v1 r1⟩⟩
theorem e_b2 {f : N2} (hc : CallR X (.builtin id) (rC2 X.K f)) (hm : X.mg x = none) (hv : bootBuiltins x = some (.builtin id)) (ha : EE X W a ma) (hb : EE X W b mb) (hg : Gl X x := by rfl) (hn : x ≠ "__name__" := by decide) (hdb : (x == ("__debug__" : Str)) = false := by decide)
    (hs : starEach [a, b] X.env = (false, eval a X.env) :: starEach [b] X.env := by rfl) (hs' : starEach [b] X.env = (false, eval b X.env) :: starEach [] X.env := by rfl) (hp : (backTo pos (starEach [b] X.env)).any (·.1) = false := by rfl) : EE X W (.Call (.Name x p) [a, b] [] pos) (mOp f ma mb) :=
  (pe_callB hc hg hm hv (pa_cons ha (pa_cons hb pa_nil hs') hs) hn hdb hs hp).mono fun σ H Q h => by
    obtain ⟨ρ, g, ι, er, s, p⟩ := two h
    refine ⟨ρ, g, ι, er, s, p.imp fun d1 g1 H1 ι1 _ x1 s1 p1 v1 r1 => ?_⟩
    obtain ⟨ρ2, g2, ι2, er2, s2, p2⟩ := p1 v1 r1
    exact ⟨ρ2, g2, ι2, er2, s2, p2.imp fun d3 g3 H3 ι3 _ x3 s3 p3 v3 r3 => ⟨v1, v3, rfl, p3 v3 r3⟩⟩
theorem c_int : CallR X (.type "int") (rC1 X.K (p1 oInt)) := by
  intro pins s σ H xs us Q I r h
  obtain ⟨x, rfl, h⟩ := h
  obtain ⟨d1, g, ι, sr, r1, d, e, k⟩ := h.pure
  cases r1 with
  | int i => cases e; exact call_int1 pins s σ H _ us Q I r (.inl ⟨i, rfl, k _ (.int _)⟩)
  | bl b => cases e; exact call_int1 pins s σ H _ us Q I r (.inr ⟨b, rfl, k _ (.int _)⟩)
  | _ => simp [oInt] at e
theorem c_len : CallR X (.builtin "len") (rC1 X.K (p1 oLen)) := by
  intro pins s σ H xs us Q I r h
  obtain ⟨x, rfl, h⟩ := h
  obtain ⟨d1, g, ι, sr, r1, d, e, k⟩ := h.pure
  simp only [oLen, Option.map_eq_some_iff] at e
  obtain ⟨n, e, rfl⟩ := e
  cases r1 with
  | str z =>
    unfold lenD at e
    dsimp only at e
    split at e
    · rename_i hl
      cases e
      refine call_len_str pins s σ H _ us Q I r ⟨sS z, rfl, by rw [sS_length, line_eq]; exact hl, ?_⟩
      rw [sS_length]
      exact k _ (.int _)
    · cases e
  | @tup ds vs p ht hr =>
    cases e
    refine call_len_seq pins s σ H _ us Q I r ⟨p, vs, rfl, .inr ht, ?_⟩
    rw [← hr.len]
    exact k _ (.int _)
  | @ref q p hp =>
    simp only [lenD, Option.map_eq_some_iff] at e
    obtain ⟨xs, h1, rfl⟩ := e
    obtain ⟨a', vs, ee, hq, hr⟩ := sr.list (.ref hp) h1
    cases ee
    refine call_len_seq pins s σ H _ us Q I r ⟨p, vs, rfl, .inl hq, ?_⟩
    rw [← hr.len]
    exact k _ (.int _)
  | _ => simp [lenD] at e
theorem c_ord : CallR X (.builtin "ord") (rC1 X.K (p1 oOrd)) := by
  intro pins s σ H xs us Q I r h
  obtain ⟨x, rfl, h⟩ := h
  obtain ⟨d1, g, ι, sr, r1, d, e, k⟩ := h.pure
  cases r1 with
  | str z =>
    unfold oOrd at e
    split at e
    · rename_i c hc
      cases hc
      cases e
      exact call_ord pins s σ H _ us Q I r ⟨sS [c], rfl, rfl, k _ (.int _)⟩
    · cases e
  | _ => simp [oOrd] at e
theorem c_min (hc : X.calm = true) : CallR X (.builtin "min") (rC2 X.K (p2 oMin)) := by
  intro pins s σ H xs us Q I r h
  obtain ⟨x, y, rfl, h⟩ := h
  obtain ⟨d1, d2, g, ι, sr, r1, r2, d, e, k⟩ := h.pure
  cases d1 <;> cases d2 <;> simp [oMin] at e
  cases r1
  cases r2
  exact call_min2 hc pins s σ H _ us Q I r ⟨_, _, rfl, k _ (by rw [← e]; exact .int _)⟩
theorem c_max (hc : X.calm = true) : CallR X (.builtin "max") (rC2 X.K (p2 oMax)) := by
  intro pins s σ H xs us Q I r h
  obtain ⟨x, y, rfl, h⟩ := h
  obtain ⟨d1, d2, g, ι, sr, r1, r2, d, e, k⟩ := h.pure
  cases d1 <;> cases d2 <;> simp [oMax] at e
  cases r1
  cases r2
  exact call_max2 hc pins s σ H _ us Q I r ⟨_, _, rfl, k _ (by rw [← e]; exact .int _)⟩
theorem c_tuple : CallR X (.type "tuple") (rC1 X.K oTuple) := by
  intro pins s σ H xs us Q I r h
  obtain ⟨x, rfl, d1, g, ι, sr, r1, d, g', e, k⟩ := h
  simp only [oTuple, Option.map_eq_some_iff] at e
  obtain ⟨ds, e, h2⟩ := e
  cases h2
  cases r1 with
  | @tup ds' vs p ht hr => cases e; exact call_tuple_of pins s σ H _ us Q I r ⟨p, vs, rfl, .inr ⟨ht, k _ H ι Ext.refl sr (.tup ht hr)⟩⟩
  | @ref q p hp =>
    obtain ⟨a', vs, ee, hq, hr⟩ := sr.list (.ref hp) (by unfold lstOf; unfold seqOf at e; exact e)
    cases ee
    exact call_tuple_of pins s σ H _ us Q I r ⟨p, vs, rfl, .inl ⟨hq, newT_post sr hr k⟩⟩
  | _ => simp [seqOf] at e
theorem c_list : CallR X (.type "list") (rC1 X.K oList) := by
  intro pins s σ H xs us Q I r h
  obtain ⟨x, rfl, d1, g, ι, sr, r1, d, g', e, k⟩ := h
  simp only [oList, Option.map_eq_some_iff] at e
  obtain ⟨ds, e, h2⟩ := e
  cases h2
  obtain ⟨p, vs, rfl, hq, hr⟩ := sr.seq r1 e
  exact call_list_of pins s σ H _ us Q I r ⟨p, vs, rfl, hq, newL_post sr hr k⟩
/-! ### isinstance -/
def tyName : Ty → String | .int => "int" | .bool => "bool" | .str => "str" | .tuple => "tuple" | .list => "list"
def tyName' : Option Ty → String | none => "NoneType" | some t => tyName t
theorem kit_ty' (t : Ty) (u : Option Ty) : kitB (tyName' u) (tyName t) = some (isTy t u) := by
  cases t <;> cases u <;> first
    | decide +kernel
    | (rename_i w; cases w <;> decide +kernel)
theorem tyx_of {K H ι g} {d : D} {v : V} {u : Option Ty} (s : SR_ K H ι g) (r : Rep K H ι d v) (h : tyOf d g = some u) : TyX K H v (.type (tyName' u)) := by
  cases r with
  | adr _ => cases h
  | non => cases h; exact .base .non
  | bl b => cases h; exact .base (.bl b)
  | int i => cases h; exact .base (.int i)
  | str x => cases h; exact .base (.str _)
  | @tup ds vs a ht hr =>
    cases h
    rcases ht with (ht | ⟨o, ht⟩) | ⟨o, its, n, h1, h2, _⟩
    · exact .base (.tup ht)
    · exact .fTuple ht
    · exact .kTuple h1 h2
  | @ref q a ha =>
    unfold tyOf at h
    dsimp only at h
    split at h
    · rename_i xs e
      cases h
      obtain ⟨vs, h1, _⟩ := s.lst ha e
      exact .base (.lst h1)
    · rename_i xs e
      cases h
      obtain ⟨vs, h1, _⟩ := s.frz ha e
      rcases h1 with ⟨o, h1⟩ | ⟨o, its, n, h1, h2, _⟩
      · exact .base (.frz h1)
      · exact .kList h1 h2
    · cases h
theorem e_isi (t : Ty) {y : Str} {p' : Pos} (hm : X.mg "isinstance" = none) (hm' : X.mg y = none) (hv' : bootBuiltins y = some (.type (tyName t))) (ha : EE X W a ma) (hg : Gl X "isinstance" := by rfl) (hg' : Gl X y := by rfl) (hn' : y ≠ "__name__" := by decide) (hdb' : (y == ("__debug__" : Str)) = false := by decide)
    (hs : starEach [a, .Name y p'] X.env = (false, eval a X.env) :: starEach [.Name y p'] X.env := by rfl) (hs' : starEach [.Name y p'] X.env = (false, eval (.Name y p') X.env) :: starEach [] X.env := by rfl)
    (hp : (backTo pos (starEach [.Name y p'] X.env)).any (·.1) = false := by rfl) : EE X W (.Call (.Name "isinstance" p) [a, .Name y p'] [] pos) (mUn (p1 (oIsi t)) ma) := by
  have hb : PE X (.Name y p') (tC (.ty (tyName t))) := pe_bltn hg' hm' hv' rfl hn' hdb'
  refine (pe_callB call_isi hg hm (by decide +kernel) (pa_cons ha (pa_cons hb pa_nil hs') hs) (by decide) (by decide) hs hp).mono fun σ H Q h => ?_
  obtain ⟨ρ, g, ι, er, s, q⟩ := one h
  refine ⟨ρ, g, ι, er, s, q.imp fun d1 g1 H1 ι1 _ x1 s1 q1 v1 r1 => ?_⟩
  obtain ⟨d2, g2, ι2, s2, r2, d, e, k⟩ := (q1 v1 r1).pure
  simp only [oIsi, Option.map_eq_some_iff] at e
  obtain ⟨u, e, rfl⟩ := e
  exact ⟨v1, .ty (tyName t), .type (tyName' u), .type (tyName t), isTy t u, rfl, ClsV.ty _, tyx_of s2 r2 e, kit_ty (kit_ty' t u), k _ (.bl _)⟩
/-! ### append -/
theorem e_app {apos : Pos} {o : Expr} {mo : M} (ho : EE X W o mo) (he : EE X W e m)
    (hbase : attributeBase o "append" X.env (eval o X.env) = eval o X.env := by rfl)
    (hfew : ((backTo pos (starEach [e] X.env)).all (fun x => !x.1) && (backToKw pos (keywordEach [] X.env)).all (fun x => x.1.isSome) && decide ([e].length + ([] : List Keyword).length + (if ([] : List Keyword).isEmpty then 0 else 1) < 30)) = true := by rfl)
    (hline : (apos.endLine == pos.line) = true := by rfl) (hs : starEach [e] X.env = (false, eval e X.env) :: starEach [] X.env := by rfl) : EE X W (.Call (.Attribute o "append" apos) [e] [] pos) (mApp mo m) := by
  refine (pe_bm PySem.F.plainAttrs_list PySem.F.slot_list_append PySem.F.type_list_append mt_append ho (pa_cons he pa_nil hs) hbase hfew hline hs (by rfl)).mono fun σ H Q ⟨ρ, g, ι, er, s, p⟩ => ?_
  refine ⟨ρ, g, ι, er, s, (Post.bind p).imp fun d1 g1 H1 ι1 _ x1 s1 p1 v1 r1 => ?_⟩
  split at p1
  · rename_i hl
    obtain ⟨xs, hx⟩ := Option.isSome_iff_exists.mp hl
    obtain ⟨a', vs, e1, hq, hr⟩ := s1.list r1 hx
    subst e1
    refine ⟨.inl ⟨rfl, vs, hq⟩, ρ, g1, ι1, er.ext x1, s1, (Post.bind p1).imp fun d2 g2 H2 ι2 _ x2 s2 p2 v2 r2 => ?_⟩
    obtain ⟨d, g', e2, k⟩ := p2.ofO
    unfold oAppend at e2
    split at e2
    · rename_i r ys hm
      split at e2
      · rename_i hz
        cases e2
        obtain ⟨e3, hg⟩ := mutOf_inv hm
        subst e3
        have r1' := r1.ext x2
        cases r1' with
        | ref ha =>
          obtain ⟨ws, h1, h2⟩ := s2.lst ha hg
          refine ⟨a', ws, v2, rfl, rfl, h1, by rw [← h2.len, line_eq]; exact hz, ?_⟩
          exact k _ ι2 (Ext.wr h1) (s2.wrL hg ha (h2.append (.cons r2 .nil)) h1) _ .non
      · cases e2
    · cases e2
  · exact p1.elim
end
end Py
namespace Py
open PySem L2
/-! ### the greatest, the least -/
section
variable {X : Cx}
theorem allI_some : ∀ {ds : List D} {is : List Int}, allI ds = some is → ds = is.map D.int
  | [], is, h => by cases h; rfl
  | d :: r, is, h => by
    cases d with
    | int i =>
      simp only [allI, Option.map_eq_some_iff] at h
      obtain ⟨js, h1, rfl⟩ := h
      rw [allI_some h1]; rfl
    | _ => cases h
theorem reps_ints {K H ι} : ∀ {is : List Int} {vs : List V}, Reps K H ι (is.map D.int) vs → vs = is.map V.int
  | [], _, r => by cases r; rfl
  | i :: is, _, r => by
    cases r with
    | cons h t => cases h; rw [reps_ints t]; rfl
theorem maxI_is : ∀ {is : List Int} {m : Int}, maxI is = some m → m ∈ is ∧ ∀ y ∈ is, y ≤ m
  | [], m, h => by cases h
  | i :: r, m, h => by
    unfold maxI at h
    cases hr : maxI r with
    | none =>
      rw [hr] at h
      cases h
      cases r with
      | nil => simp
      | cons j r => unfold maxI at hr; split at hr <;> cases hr
    | some k =>
      rw [hr] at h
      obtain ⟨h1, h2⟩ := maxI_is hr
      have h' : (if i < k then k else i) = m := Option.some.inj h
      by_cases hik : i < k
      · rw [if_pos hik] at h'
        subst h'
        exact ⟨List.mem_cons_of_mem _ h1, fun y hy => (List.mem_cons.mp hy).elim (fun e => by omega) (h2 y)⟩
      · rw [if_neg hik] at h'
        subst h'
        exact ⟨List.mem_cons_self, fun y hy => (List.mem_cons.mp hy).elim (fun e => by omega) fun z => by have := h2 y z; omega⟩
theorem minI_is : ∀ {is : List Int} {m : Int}, minI is = some m → m ∈ is ∧ ∀ y ∈ is, m ≤ y
  | [], m, h => by cases h
  | i :: r, m, h => by
    unfold minI at h
    cases hr : minI r with
    | none =>
      rw [hr] at h
      cases h
      cases r with
      | nil => simp
      | cons j r => unfold minI at hr; split at hr <;> cases hr
    | some k =>
      rw [hr] at h
      obtain ⟨h1, h2⟩ := minI_is hr
      have h' : (if k < i then k else i) = m := Option.some.inj h
      by_cases hik : k < i
      · rw [if_pos hik] at h'
        subst h'
        exact ⟨List.mem_cons_of_mem _ h1, fun y hy => (List.mem_cons.mp hy).elim (fun e => by omega) (h2 y)⟩
      · rw [if_neg hik] at h'
        subst h'
        exact ⟨List.mem_cons_self, fun y hy => (List.mem_cons.mp hy).elim (fun e => by omega) fun z => by have := h2 y z; omega⟩
/-- max, min of a tuple of ints, over the heap -/
theorem best_tup {P : Program} {w : World} {A : Around} {E : Value → Shared → Prop} {s : Shared} {l : Addr} {xs : Array (Int × Tok)} {Q : Value → Shared → Prop} (hh : A.handled = none) (hl : s.heap.IsTuple l (intItems xs)) (hne : 0 < xs.size) :
    ((∀ v h' tk, (intItems xs)[argBest (fun i j => decide (numAt xs i > numAt xs j)) (xs.size - 1)]? = some v → (∀ b o, s.heap.get? b = some o → h'.get? b = some o) → Q v { s with heap := h', toks := tk }) → wpAny (model P w) A (call (.builtin "max") [.ref l]) Q E s) ∧
    ((∀ v h' tk, (intItems xs)[argBest (fun i j => decide (numAt xs i < numAt xs j)) (xs.size - 1)]? = some v → (∀ b o, s.heap.get? b = some o → h'.get? b = some o) → Q v { s with heap := h', toks := tk }) → wpAny (model P w) A (call (.builtin "min") [.ref l]) Q E s) := by
  have hlt : l < s.heap.objs.size := by obtain ⟨_, e, _⟩ := hl; exact Heap.lt_size e
  have hl2 : ∀ x, (s.heap.push x).IsTuple l (intItems xs) := fun x => by
    obtain ⟨o, e, q⟩ := hl
    exact ⟨o, Heap.get?_push_of_some _ e, q⟩
  have fp : ∀ x, ∀ b ∈ [s.heap.objs.size, l], b < (s.heap.push x).objs.size := fun x b hb => by
    rw [Heap.size_push]
    rcases List.mem_cons.mp hb with e | hb
    · rw [e]; exact Nat.lt_succ_self _
    · rw [List.mem_singleton.mp hb]; exact Nat.lt_succ_of_lt hlt
  have old : ∀ {h' : Heap} {x : Obj}, (∀ b o, b ∉ [s.heap.objs.size] → (s.heap.push x).get? b = some o → h'.get? b = some o) → ∀ b o, s.heap.get? b = some o → h'.get? b = some o := fun {h' x} hk b o e =>
    hk b o (fun hm => absurd (Heap.lt_size e) (by rw [List.mem_singleton.mp hm]; exact Nat.lt_irrefl _)) (Heap.get?_push_of_some _ e)
  have st : (s.heap.push { cls := .type "tuple_iterator", data := .fields #[.ref l, .int 0 0] }).IsTupleIter s.heap.objs.size l 0 := ⟨_, Heap.get?_push_size _ rfl, rfl, rfl⟩
  have sz : 0 < (intItems xs).size := by simpa [intItems] using hne
  have eqsz : (intItems xs).size = xs.size := by simp [intItems]
  refine ⟨fun h => call_max_walk (wpAny_pyIter_tuple hl ?_), fun h => call_min_walk (wpAny_pyIter_tuple hl ?_)⟩
  · refine ⟨_, _, _, _, _, _, _, rfl, Walks.tuple (A := A.in1) hh s.heap.objs.size l (Nat.ne_of_lt hlt) (intItems xs), ⟨st, hl2 _⟩, fp _, sz, CmpOf.ints_gt (numAt xs) (fun _ _ => intItems_at), fun v h' tk hP hk => ?_⟩
    rw [eqsz] at hP
    exact h v h' tk hP (old hk)
  · refine ⟨_, _, _, _, _, _, _, rfl, Walks.tuple (A := A.in1) hh s.heap.objs.size l (Nat.ne_of_lt hlt) (intItems xs), ⟨st, hl2 _⟩, fp _, sz, CmpOf.ints_lt (numAt xs) (fun _ _ => intItems_at), fun v h' tk hP hk => ?_⟩
    rw [eqsz] at hP
    exact h v h' tk hP (old hk)
/-- .. told by the ints -/
theorem best_ints {P : Program} {w : World} {A : Around} {E : Value → Shared → Prop} {s : Shared} {l : Addr} {its : List Value} {ns : List Int} {Q : Value → Shared → Prop} (hh : A.handled = none) (hl : s.heap.IsTuple l its.toArray) (hi : PyProof.Rows.IntsAre its ns) (hne : 0 < ns.length) :
    ((∀ h' tk M t', (∀ b o, s.heap.get? b = some o → h'.get? b = some o) → M ∈ ns → (∀ a, a ∈ ns → a ≤ M) → Q (.int M t') { s with heap := h', toks := tk }) → wpAny (model P w) A (call (.builtin "max") [.ref l]) Q E s) ∧
    ((∀ h' tk M t', (∀ b o, s.heap.get? b = some o → h'.get? b = some o) → M ∈ ns → (∀ a, a ∈ ns → M ≤ a) → Q (.int M t') { s with heap := h', toks := tk }) → wpAny (model P w) A (call (.builtin "min") [.ref l]) Q E s) := by
  obtain ⟨xs, e⟩ := hi.allInts.items
  have hn : numsOf (intItems xs).toList = ns := by rw [← e]; exact hi.numsOf
  rw [nums_intItems] at hn
  subst hn
  rw [e] at hl
  have hsz : 0 < xs.size := by simpa using hne
  obtain ⟨b1, b2⟩ := best_tup (P := P) (w := w) (E := E) (Q := Q) hh hl hsz
  have mem : ∀ j, j ≤ xs.size - 1 → numAt xs j ∈ xs.toList.map (·.1) := fun j hj => by
    rw [numAt_eq]
    exact PySem.getD_mem (by rw [List.length_map, Array.length_toList]; omega)
  have all : ∀ a ∈ xs.toList.map (·.1), ∃ j, j ≤ xs.size - 1 ∧ numAt xs j = a := fun a ha => by
    obtain ⟨j, hj, q⟩ := mem_getD ha
    rw [List.length_map, Array.length_toList] at hj
    exact ⟨j, by omega, by rw [numAt_eq]; exact q⟩
  refine ⟨fun h => b1 fun v h' tk hv hk => ?_, fun h => b2 fun v h' tk hv hk => ?_⟩
  · obtain ⟨t, rfl⟩ := intItems_at hv
    obtain ⟨h1, h2⟩ := argBest_gt (numAt xs) (xs.size - 1)
    exact h h' tk _ t hk (mem _ h1) fun a ha => by
      obtain ⟨j, hj, rfl⟩ := all a ha
      exact h2 j hj
  · obtain ⟨t, rfl⟩ := intItems_at hv
    obtain ⟨h1, h2⟩ := argBest_lt (numAt xs) (xs.size - 1)
    exact h h' tk _ t hk (mem _ h1) fun a ha => by
      obtain ⟨j, hj, rfl⟩ := all a ha
      exact h2 j hj
theorem maxI_uniq {is : List Int} {m k : Int} (h : maxI is = some m) (h1 : k ∈ is) (h2 : ∀ y ∈ is, y ≤ k) : k = m := by
  obtain ⟨a, b⟩ := maxI_is h
  have := b k h1
  have := h2 m a
  omega
theorem minI_uniq {is : List Int} {m k : Int} (h : minI is = some m) (h1 : k ∈ is) (h2 : ∀ y ∈ is, k ≤ y) : k = m := by
  obtain ⟨a, b⟩ := minI_is h
  have := b k h1
  have := h2 m a
  omega
theorem oMaxL_some {x : D} {g : G} {d : D} (h : oMaxL x g = some d) : ∃ is m, seqOf x g = some (is.map D.int) ∧ maxI is = some m ∧ d = .int m := by
  unfold oMaxL at h
  cases hs : seqOf x g with
  | none => rw [hs] at h; cases h
  | some ds =>
    rw [hs, Option.bind_some] at h
    cases ha : allI ds with
    | none => rw [ha] at h; cases h
    | some is =>
      rw [ha, Option.bind_some, Option.map_eq_some_iff] at h
      obtain ⟨m, h1, rfl⟩ := h
      exact ⟨is, m, by rw [allI_some ha], h1, rfl⟩
theorem oMinL_some {x : D} {g : G} {d : D} (h : oMinL x g = some d) : ∃ is m, seqOf x g = some (is.map D.int) ∧ minI is = some m ∧ d = .int m := by
  unfold oMinL at h
  cases hs : seqOf x g with
  | none => rw [hs] at h; cases h
  | some ds =>
    rw [hs, Option.bind_some] at h
    cases ha : allI ds with
    | none => rw [ha] at h; cases h
    | some is =>
      rw [ha, Option.bind_some, Option.map_eq_some_iff] at h
      obtain ⟨m, h1, rfl⟩ := h
      exact ⟨is, m, by rw [allI_some ha], h1, rfl⟩
theorem c_maxL (hc : X.calm = true) : CallR X (.builtin "max") (rC1 X.K (p1 oMaxL)) := by
  intro pins s σ H xs us Q I r h
  obtain ⟨x, rfl, h⟩ := h
  obtain ⟨d1, g, ι, sr, r1, d, e, k⟩ := h.pure
  obtain ⟨is, m, h1, h2, rfl⟩ := oMaxL_some e
  obtain ⟨p, vs, rfl, hq, hr⟩ := sr.seq r1 h1
  cases reps_ints hr
  have hne : 0 < is.length := by cases is with
    | nil => cases h2
    | cons _ _ => simp
  rcases hq with hq | hq
  · exact cr_max hc pins s σ H _ us Q I r ⟨p, is, rfl, hq, hne, fun k' k1 k2 => by rw [maxI_uniq h2 k1 k2]; exact k _ (.int _)⟩
  · obtain ⟨its, rv, ht, _⟩ := I.tuple hq
    rw [Vals.ref1 r]
    exact (best_ints (I.ok.hd hc) ht rv.ints hne).1 fun h' tk M t' hk k1 k2 => ⟨.int M, H, I.kept hk, ⟨_, rfl⟩, by rw [maxI_uniq h2 k1 k2]; exact k _ (.int _)⟩
theorem c_minL (hc : X.calm = true) : CallR X (.builtin "min") (rC1 X.K (p1 oMinL)) := by
  intro pins s σ H xs us Q I r h
  obtain ⟨x, rfl, h⟩ := h
  obtain ⟨d1, g, ι, sr, r1, d, e, k⟩ := h.pure
  obtain ⟨is, m, h1, h2, rfl⟩ := oMinL_some e
  obtain ⟨p, vs, rfl, hq, hr⟩ := sr.seq r1 h1
  cases reps_ints hr
  have hne : 0 < is.length := by cases is with
    | nil => cases h2
    | cons _ _ => simp
  rcases hq with hq | hq
  · exact cr_min hc pins s σ H _ us Q I r ⟨p, is, rfl, hq, hne, fun k' k1 k2 => by rw [minI_uniq h2 k1 k2]; exact k _ (.int _)⟩
  · obtain ⟨its, rv, ht, _⟩ := I.tuple hq
    rw [Vals.ref1 r]
    exact (best_ints (I.ok.hd hc) ht rv.ints hne).2 fun h' tk M t' hk k1 k2 => ⟨.int M, H, I.kept hk, ⟨_, rfl⟩, by rw [minI_uniq h2 k1 k2]; exact k _ (.int _)⟩
end
end Py
end

section
set_option Elab.async false
set_option linter.all false
set_option maxRecDepth 100000
set_option autoImplicit false
/-! sorted: of lists of texts, of whole numbers, of sets of texts. -/
namespace Py
open PySem L2
theorem sorted_ord : ∀ (ys : List (List Char)), PyProof.Rows.sortedS (ys.map sS) = true → ys.Pairwise fun a b => leS a b = true
  | [], _ => .nil
  | x :: r, h => by
    have step : ∀ (x : List Char) (r : List (List Char)), PyProof.Rows.risingS (sS x) (r.map sS) = true → r.Pairwise (fun a b => leS a b = true) ∧ ∀ y ∈ r, leS x y = true := by
      intro x r
      induction r generalizing x with
      | nil => intro _; exact ⟨.nil, fun y hy => by cases hy⟩
      | cons y r ih =>
        intro h
        simp only [List.map_cons, PyProof.Rows.risingS, Bool.and_eq_true, Bool.not_eq_true'] at h
        have h1 : leS x y = true := by
          simp only [leS, decide_eq_true_eq]
          have z := h.1
          rw [PyProof.Rows.ltCps_eq, sS_list, sS_list, decide_eq_false_iff_not] at z
          exact z
        obtain ⟨h2, h3⟩ := ih y h.2
        refine ⟨List.pairwise_cons.mpr ⟨h3, h2⟩, fun z hz => ?_⟩
        rcases List.mem_cons.mp hz with e | hz
        · rw [e]; exact h1
        · exact leS_trans _ _ _ h1 (h3 z hz)
    obtain ⟨h2, h3⟩ := step x r h
    exact List.pairwise_cons.mpr ⟨h3, h2⟩
theorem allS_some : ∀ {ds : List D} {ss : List (List Char)}, allS ds = some ss → ds = ss.map D.str
  | [], _, h => by cases h; rfl
  | d :: r, ss, h => by
    cases d <;> simp [allS] at h
    rename_i s
    obtain ⟨t, h1, rfl⟩ := h
    rw [allS_some h1]; rfl
theorem reps_strs {K H ι} : ∀ {ss : List (List Char)} {vs : List V}, Reps K H ι (ss.map D.str) vs → vs = ss.map fun s => V.str (sS s)
  | [], _, r => by cases r; rfl
  | s :: ss, _, r => by
    cases r with
    | cons h t => rw [h.str_inv, reps_strs t]; rfl
theorem unS : ∀ (xs : List Str) (ss : List (List Char)), (∀ x ∈ xs, x ∈ ss.map sS) → ∃ ys : List (List Char), xs = ys.map sS
  | [], _, _ => ⟨[], rfl⟩
  | x :: xs, ss, h => by
    obtain ⟨s, _, e⟩ := List.mem_map.mp (h x List.mem_cons_self)
    obtain ⟨ys, e2⟩ := unS xs ss fun y hy => h y (List.mem_cons_of_mem _ hy)
    exact ⟨s :: ys, by rw [e2, ← e]; rfl⟩
def unC (x : Str) : List Char := x.cps.toList.map Char.ofNat
theorem unC_sS (s : List Char) : unC (sS s) = s := by
  unfold unC
  rw [sS_list, List.map_map]
  refine (List.map_congr_left fun c _ => ?_).trans (List.map_id s)
  exact Char.ofNat_toNat c
theorem perm_sS {zs ss : List (List Char)} (h : (zs.map sS).Perm (ss.map sS)) : zs.Perm ss := by
  have z := h.map unC
  rw [List.map_map, List.map_map] at z
  have e : ∀ l : List (List Char), l.map (unC ∘ sS) = l := fun l => (List.map_congr_left fun s _ => unC_sS s).trans (List.map_id l)
  rw [e, e] at z
  exact z
theorem mem_sS {x : List Char} {ys : List (List Char)} : x ∈ ys ↔ sS x ∈ ys.map sS := ⟨fun h => List.mem_map.mpr ⟨x, h, rfl⟩, fun h => by
  obtain ⟨y, hy, e⟩ := List.mem_map.mp h
  rw [← sS_inj e]; exact hy⟩
theorem nodup_sS {ys : List (List Char)} (h : (ys.map sS).Nodup) : ys.Nodup := List.Pairwise.of_map sS (fun _ _ hne e => hne (congrArg sS e)) h
section
variable {X : Cx} {W : WX} {a b c e : Expr} {es : List Expr} {pos : Pos} {ma mb mc m : M}
theorem c_sorted : CallR X (.builtin "sorted") (rC1 X.K oSorted) := by
  intro pins s σ H xs us Q I r h
  obtain ⟨x, rfl, d1, g, ι, sr, r1, d, g', e, k⟩ := h
  unfold oSorted at e
  rw [Option.bind_eq_some_iff] at e
  obtain ⟨ds, e1, e⟩ := e
  obtain ⟨p, vs, rfl, hq, hr⟩ := sr.list r1 e1
  rw [Vals.ref1 r]
  obtain ⟨its, rv, hl, hz⟩ := I.list hq
  have hlen := rv.length
  split at e
  · rename_i ss hss
    cases e
    have e2 := allS_some hss
    subst e2
    have e3 := reps_strs hr
    subst e3
    have h3 : PyProof.Rows.StrsAre its (ss.map sS) := by
      have z : Vals ((ss.map sS).map V.str) its := by rw [List.map_map]; exact rv
      exact z.strs
    refine PyProof.Rows.sorted_strsAny hl.isList h3 (by rw [← hlen]; exact hz) fun out ys h1 h2 h4 => ?_
    obtain ⟨zs, rfl⟩ := unS ys ss fun y hy => h2.mem_iff.mp hy
    have p2 : zs.Perm ss := perm_sS h2
    have eq := sortS_uniq p2 (sorted_ord zs h4)
    subst eq
    obtain ⟨ep, he'⟩ := PyProof.Rows.sortedAll_at s.heap its out
    have hv : Vals ((sortS ss).map fun s => V.str (sS s)) out.toList := by
      have z := vals_of_strs h1
      rw [List.map_map] at z
      exact z
    have hlen2 : ((sortS ss).map fun s => V.str (sS s)).length ≤ sizeLine := by
      rw [List.length_map, (sortS_perm ss).length_eq]
      simpa using hz
    have hn := I.hok.fresh (Nat.le_succ s.heap.objs.size)
    exact ⟨.ref _, upd H (s.heap.objs.size + 1) (.lst ((sortS ss).map fun s => V.str (sS s))), I.laid (t' := s.toks) (fun _ _ => PyProof.Rows.sortedAll_old) (Nat.le_succ _) ⟨hlen2, out.toList, ep, hv, he'⟩, rfl, newL_post sr .strs k _ hn⟩
  · rw [Option.map_eq_some_iff] at e
    obtain ⟨is, hi, e⟩ := e
    cases e
    have e2 := allI_some hi
    subst e2
    have e3 := reps_ints hr
    subst e3
    refine PyProof.Rows.sorted_intsAny hl.isList rv.ints (by rw [← hlen]; exact hz) fun out ys h1 h2 h4 => ?_
    have eq := sortI_uniq h2 h4
    subst eq
    obtain ⟨ep, he'⟩ := PyProof.Rows.sortedAll_at s.heap its out
    have hlen2 : ((sortI is).map V.int).length ≤ sizeLine := by
      rw [List.length_map, (sortI_perm is).length_eq]
      simpa using hz
    have hn := I.hok.fresh (Nat.le_succ s.heap.objs.size)
    exact ⟨.ref _, upd H (s.heap.objs.size + 1) (.lst ((sortI is).map V.int)), I.laid (t' := s.toks) (fun _ _ => PyProof.Rows.sortedAll_old) (Nat.le_succ _) ⟨hlen2, out.toList, ep, vals_of_ints h1, he'⟩, rfl, newL_post sr .ints k _ hn⟩
theorem rep_seq_strs {g : G} {ι : List Addr} {K H} {d : D} {v : V} {ss : List (List Char)} (s : SR_ K H ι g) (r : Rep K H ι d v) (h : seqOf d g = some (ss.map D.str)) :
    ∃ p, v = .ref p ∧ (SqL K H p (ss.map fun s => V.str (sS s)) ∨ SqT K H p (ss.map fun s => V.str (sS s))) := by
  obtain ⟨p, vs, e, hq, hr⟩ := s.seq r h
  rw [reps_strs hr] at hq
  exact ⟨p, e, hq⟩
theorem e_sortSet {p p2 q : Pos} (hc : X.calm = true) (hm : X.mg "sorted" = none) (hm2 : X.mg "set" = none) (ha : EE X W a ma) (hg : Gl X "sorted" := by rfl) (hg2 : Gl X "set" := by rfl)
    (hs : starEach [.Call (.Name "set" p2) [a] [] q] X.env = [(false, eval (.Call (.Name "set" p2) [a] [] q) X.env)] := by rfl) (hs2 : starEach [a] X.env = [(false, eval a X.env)] := by rfl) :
    EE X W (.Call (.Name "sorted" p) [.Call (.Name "set" p2) [a] [] q] [] pos) (mUn oSortSet ma) := by
  refine ⟨fun pins s σ H Q I h => ?_⟩
  have h1 := one h
  refine PyProof.Rows.Call_ (ld_blt I hg hm (show bootBuiltins "sorted" = some (.builtin "sorted") by decide +kernel) ?_)
  refine PyProof.Rows.callWith_builtin1 (PyProof.Rows.args_cons ?_ rfl) hs rfl
  refine PyProof.Rows.Call_ (ld_blt I hg2 hm2 PyProof.Rows.boot_set ?_)
  refine PyProof.Rows.callWith_type1 (PyProof.Rows.args_cons (thn (ha.run pins s σ H _ I h1) fun v s1 ⟨x, H1, I1, r1, q1⟩ => PyProof.Rows.args_nil ?_) hs2) hs2 rfl
  obtain ⟨d1, g, ι, sr, rp, d, g', e, k⟩ := q1
  unfold oSortSet at e
  rw [Option.bind_eq_some_iff] at e
  obtain ⟨ss, e1, e⟩ := e
  rw [Option.bind_eq_some_iff] at e1
  obtain ⟨ds, e0, e1⟩ := e1
  have e2 := allS_some e1
  subst e2
  split at e
  · rename_i few
    cases e
    obtain ⟨p0, rfl, hq⟩ := rep_seq_strs sr rp e0
    cases r1
    have hd := I1.ok.hd hc
    have lim : (ss.map sS).length + 1 < scanBound := by rw [List.length_map, show scanBound = 4096 from rfl]; omega
    have fin : ∀ s2, PyG.Full X.prog X.w s1 (ss.map sS) s2 → PySem.wpAny (model X.prog X.w) X.A (spliced (backTo pos (starEach [] X.env))) (fun vs s' => PySem.wpAny (model X.prog X.w) X.A (call (.builtin "sorted") (.ref s1.heap.objs.size :: vs)) (EP X pins σ Q) X.xe s') X.xe s2 := fun s2 F => by
      obtain ⟨h', tk, Dd, l, rfl, ho, T, hl, hm', keep⟩ := F
      refine PyProof.Rows.args_nil ?_
      refine PyG.sorted_txt (s := { s1 with heap := h', toks := tk }) ho T hd (by omega) fun s3 p3 out c xs k3 g3 o3 hp3 hg3 hst hso hpm => ?_
      obtain ⟨ys, rfl⟩ := unS xs ss fun y hy => (hm' y).mp (hpm.mem_iff.mp hy)
      have eq : ys = sortS (ddS ss) := sortS_dd (nodup_sS (hpm.nodup_iff.mpr T.nd)) (fun x => by
        rw [mem_sS, hpm.mem_iff, hm' (sS x), ← mem_sS]) (sorted_ord ys hso)
      subst eq
      have kall : ∀ b o, s1.heap.get? b = some o → s3.heap.get? b = some o := fun b o z => k3 b o (keep b o z)
      have hp1 : s1.heap.objs.size ≤ p3 := Nat.le_trans (Nat.le_of_lt (Heap.lt_size ho)) hp3
      have hn := I1.hok.fresh hp1
      have hv : Vals ((sortS (ddS ss)).map fun s => V.str (sS s)) out.toList := by
        have z := vals_of_strs hst
        rw [List.map_map] at z
        exact z
      have hlen : ((sortS (ddS ss)).map fun s => V.str (sS s)).length ≤ sizeLine := by
        have z := hpm.length_eq
        rw [List.length_map] at z
        rw [List.length_map, z, line_eq]
        rw [List.length_map] at hl lim
        have e4 : LINE = 16777216 := rfl
        omega
      have J : L2.Inv X pins σ (upd H1 p3 (.lst ((sortS (ddS ss)).map fun s => V.str (sS s)))) { s1 with heap := s3.heap, gens := s3.gens, drawn := s3.drawn, toks := s3.toks } :=
        I1.call (ch := []) (Un.laid kall hp1 hn) (I1.hok.laid kall hp1 ⟨hlen, out.toList, c, hv, hg3⟩) (by rw [g3]; exact I1.bare) (fun _ z => nomatch z)
      have e3 : s3 = { s1 with heap := s3.heap, gens := s3.gens, drawn := s3.drawn, toks := s3.toks } := by
        cases s3
        cases o3
        rfl
      rw [e3]
      exact ⟨.ref p3, _, J, rfl, newL_post sr .strs k _ hn⟩
    rcases hq with hq | hq
    · obtain ⟨its, rv, hl, hz⟩ := I1.list hq
      refine PyG.set_list (ss.map sS) hd hl.isList (Vals.strs (by rw [List.map_map]; exact rv)) lim fin
    · obtain ⟨its, rv, hl, hz⟩ := I1.tuple hq
      refine PyG.set_tuple (ss.map sS) hd hl (Vals.strs (by rw [List.map_map]; exact rv)) lim fin
  · cases e
end
end Py
end

section
set_option Elab.async false
set_option linter.all false
set_option maxRecDepth 100000
set_option autoImplicit false
/-! Soundness of loops, targets, comprehensions, statements, defs. -/
namespace Py
open PySem L2
section
variable {K : PySem.W.Frag} {mg : Str → Option Value} {W : WX} {σ : St} {H H' : Hp} {ι ι' : List Addr}
/-! ### iterators -/
def Sim (K : PySem.W.Frag) (H0 : Hp) (ι0 : List Addr) (J : It) (it : Iter) : Prop := ∀ (i : Nat) (H : Hp) (g : G) (ι : List Addr), Ext K H0 H ι0 ι → SR_ K H ι g →
  (it.get i g = some none → J.stop i H) ∧ ∀ d, it.get i g = some (some d) → J.go i H ∧ ∀ x H', J.yld i H x H' → Ext K H H' ι ι ∧ SR_ K H' ι g ∧ Rep K H' ι d x
def tI (K : PySem.W.Frag) (mg : Str → Option Value) (W : WX) (w : I) : TI := fun σ H R => ∃ ρ g ι, ER K H ι ρ σ ∧ SR_ K H ι g ∧ Post K mg W σ H ι (w ρ g) fun it _ H' ι' => ∀ J, Sim K H' ι' J it → R J H'
theorem sim_list {r : Nat} {a : Addr} {n : Nat} (ha : ι[r]? = some a) : Sim K H ι (Itl K a) (itR r n) := by
  intro i H1 g ι1 x s
  have ha1 := x.pre r a ha
  refine ⟨fun h => ?_, fun d h => ?_⟩
  · simp only [itR, Option.map_eq_some_iff] at h
    obtain ⟨xs, h1, h2⟩ := h
    obtain ⟨a', vs, e, hq, hr⟩ := s.list (.ref ha1) h1
    cases e
    refine ⟨vs, hq, ?_⟩
    have := List.getElem?_eq_none_iff.mp h2
    rw [← hr.len]; exact this
  · simp only [itR, Option.map_eq_some_iff] at h
    obtain ⟨xs, h1, h2⟩ := h
    obtain ⟨a', vs, e, hq, hr⟩ := s.list (.ref ha1) h1
    cases e
    obtain ⟨v, h3, h4⟩ := hr.get h2
    refine ⟨⟨vs, v, hq, h3⟩, fun y H' hy => ?_⟩
    obtain ⟨rfl, hy⟩ := hy
    have := hy vs hq
    rw [h3] at this
    cases this
    exact ⟨Ext.refl, s, h4⟩
theorem sim_tup {a : Addr} {ds : List D} {vs : List V} (hq : SqT K H a vs) (hr : Reps K H ι ds vs) : Sim K H ι (Itt K a) (itL ds) := by
  intro i H1 g ι1 x s
  have hq1 := x.tup a vs hq
  have hr1 := hr.ext x
  refine ⟨fun h => ?_, fun d h => ?_⟩
  · have h' : ds[i]? = none := Option.some.inj h
    refine ⟨vs, hq1, ?_⟩
    rw [← hr.len]; exact List.getElem?_eq_none_iff.mp h'
  · have h' : ds[i]? = some d := Option.some.inj h
    obtain ⟨v, h3, h4⟩ := hr1.get h'
    refine ⟨⟨vs, v, hq1, h3⟩, fun y H' hy => ?_⟩
    obtain ⟨rfl, hy⟩ := hy
    have := hy vs hq1
    rw [h3] at this
    cases this
    exact ⟨Ext.refl, s, h4⟩
theorem sim_str {z : List Char} : Sim K H ι (Its (sS z)) (itL (z.map fun c => .str [c])) := by
  intro i H1 g ι1 x s
  have hz : (sS z).cps.size = z.length := sS_length z
  refine ⟨fun h => ?_, fun d h => ?_⟩
  · have h' : (z.map fun c => D.str [c])[i]? = none := Option.some.inj h
    have := List.getElem?_eq_none_iff.mp h'
    rw [List.length_map] at this
    show (sS z).cps.size ≤ i
    omega
  · have h' : (z.map fun c => D.str [c])[i]? = some d := Option.some.inj h
    rw [List.getElem?_map, Option.map_eq_some_iff] at h'
    obtain ⟨c, h1, rfl⟩ := h'
    have hl := (List.getElem?_eq_some_iff.mp h1).1
    refine ⟨show i < (sS z).cps.size by omega, fun y H' hy => ?_⟩
    obtain ⟨rfl, c', h2, rfl⟩ := hy
    have e : (sS z).cps[i]? = some c.toNat := by
      rw [← Array.getElem?_toList, sS_list, List.getElem?_map, h1]; rfl
    rw [e] at h2
    cases h2
    exact ⟨Ext.refl, s, .str [c]⟩
theorem rng_get (lo : Int) (n i : Nat) : (rng lo n)[i]? = if i < n then some (.int (lo + i)) else none := by
  unfold rng
  rw [List.getElem?_map]
  by_cases h : i < n
  · rw [if_pos h, List.getElem?_range h]; rfl
  · rw [if_neg h, List.getElem?_eq_none (by simp; omega)]; rfl
theorem sim_rng {lo : Int} {n : Nat} : Sim K H ι (Itr lo n) (itL (rng lo n)) := by
  intro i H1 g ι1 x s
  refine ⟨fun h => ?_, fun d h => ?_⟩
  · have h' : (rng lo n)[i]? = none := Option.some.inj h
    rw [rng_get] at h'
    show n ≤ i
    by_cases hi : i < n
    · rw [if_pos hi] at h'; cases h'
    · omega
  · have h' : (rng lo n)[i]? = some d := Option.some.inj h
    rw [rng_get] at h'
    by_cases hi : i < n
    · rw [if_pos hi] at h'
      cases h'
      refine ⟨hi, fun y H' hy => ?_⟩
      obtain ⟨rfl, rfl⟩ := hy
      exact ⟨Ext.refl, s, .int _⟩
    · rw [if_neg hi] at h'; cases h'
end
section
variable {X : Cx} {W : WX} {tg a b c e : Expr} {es : List Expr} {pos : Pos} {ma mb m : M}
abbrev II (X : Cx) (W : WX) (tg e : Expr) (w : I) : Prop := PI X tg e (tI X.K X.mg W w)
theorem i_any (h : EE X W e m) : II X W tg e (iAny m) := by
  refine ⟨fun pins s σ H R I ⟨ρ, g, ι, er, sr, p⟩ => ?_⟩
  unfold iAny at p
  cases hm : m ρ g with
  | bad => rw [hm] at p; exact p.elim
  | exc x g1 =>
    refine (pi_list (tg := tg) h).run pins s σ H R I ⟨ρ, g, ι, er, sr, ?_⟩
    rw [hm] at p ⊢
    exact p
  | ok d g1 =>
    rw [hm, Py.R.bind_ok] at p
    cases d with
    | tup ds =>
      refine (pi_tup (tg := tg) h).run pins s σ H R I ⟨ρ, g, ι, er, sr, ?_⟩
      rw [hm]
      intro H' ι' x s' v r
      cases r with
      | @tup _ vs q ht hr => exact ⟨q, rfl, ⟨vs, ht⟩, p H' ι' x s' _ (sim_tup ht hr)⟩
    | str z =>
      refine (pi_str (tg := tg) h).run pins s σ H R I ⟨ρ, g, ι, er, sr, ?_⟩
      rw [hm]
      intro H' ι' x s' v r
      cases r
      exact ⟨sS z, rfl, p H' ι' x s' _ sim_str⟩
    | ref rr =>
      refine (pi_list (tg := tg) h).run pins s σ H R I ⟨ρ, g, ι, er, sr, ?_⟩
      rw [hm]
      intro H' ι' x s' v r
      unfold iterOf at p
      dsimp only at p
      cases hl : lstOf (.ref rr) g1 with
      | none => rw [hl] at p; exact p.elim
      | some xs =>
        rw [hl] at p
        obtain ⟨a', vs, e1, hq, hr⟩ := s'.list r hl
        subst e1
        cases r with
        | ref ha => exact ⟨a', rfl, ⟨vs, hq⟩, p H' ι' x s' _ (sim_list ha)⟩
    | _ => exact p.elim
theorem SMALL_eq : SMALL = 2 ^ 62 := by rw [SMALL_is]; decide
theorem i_range1 {p pos : Pos} (hm : X.mg "range" = none) (ha : EE X W a ma) (hg : Gl X "range" := by rfl) (hs : starEach [a] X.env = [(false, eval a X.env)] := by rfl) : II X W tg (.Call (.Name "range" p) [a] [] pos) (iRange1 ma) :=
  (pi_range1 hg hm (pa_cons ha pa_nil hs) hs).mono fun σ H R ⟨ρ, g, ι, er, sr, p⟩ => by
    refine ⟨ρ, g, ι, er, sr, (Post.bind p).imp fun d1 g1 H1 ι1 _ x1 s1 p1 v1 r1 => ?_⟩
    cases r1 with
    | int j =>
      dsimp only at p1
      split at p1
      · rename_i hj
        rw [SMALL_eq] at hj
        exact ⟨j, rfl, hj.1, hj.2, p1.ok s1 _ sim_rng⟩
      · exact p1.elim
    | _ => exact p1.elim
theorem i_range2 {p pos : Pos} (hm : X.mg "range" = none) (ha : EE X W a ma) (hb : EE X W b mb) (hg : Gl X "range" := by rfl) (hs : starEach [a, b] X.env = [(false, eval a X.env), (false, eval b X.env)] := by rfl)
    (hs2 : starEach [b] X.env = [(false, eval b X.env)] := by rfl) : II X W tg (.Call (.Name "range" p) [a, b] [] pos) (iRange2 ma mb) :=
  (pi_range2 hg hm (pa_cons ha (pa_cons hb pa_nil hs2) (by rw [hs, hs2])) hs hs2).mono fun σ H R ⟨ρ, g, ι, er, sr, p⟩ => by
    refine ⟨ρ, g, ι, er, sr, (Post.bind p).imp fun d1 g1 H1 ι1 _ x1 s1 p1 v1 r1 => ⟨ρ, g1, ι1, er.ext x1, s1, (Post.bind p1).imp fun d2 g2 H2 ι2 _ x2 s2 p2 v2 r2 => ?_⟩⟩
    have r1 := r1.ext x2
    cases r1 with
    | int i =>
      cases r2 with
      | int j =>
        dsimp only at p2
        split at p2
        · rename_i hj
          rw [SMALL_eq] at hj
          exact ⟨i, j, rfl, ⟨hj.1.1, hj.1.2, hj.2.1, hj.2.2⟩, p2.ok s2 _ sim_rng⟩
        · exact p2.elim
      | _ => exact p2.elim
    | _ => cases r2 <;> exact p2.elim
/-! ### targets -/
/-- but the slots in own nothing changes -/
def Keep (own : List Nat) (σ σ' : St) : Prop := σ'.length = σ.length ∧ ∀ i, i ∉ own → σ'[i]? = σ[i]?
theorem Keep.refl (own : List Nat) (σ : St) : Keep own σ σ := ⟨rfl, fun _ _ => rfl⟩
theorem Keep.trans {own : List Nat} {σ σ' σ2 : St} (a : Keep own σ σ') (b : Keep own σ' σ2) : Keep own σ σ2 := ⟨b.1.trans a.1, fun i h => (b.2 i h).trans (a.2 i h)⟩
def tG (K : PySem.W.Frag) (own : List Nat) (t : Tg) : TG := fun v σ H Q => ∃ d ρ g ι ρ', Rep K H ι d v ∧ ER K H ι ρ σ ∧ SR_ K H ι g ∧ t d ρ = some ρ' ∧ ∀ σ', ER K H ι ρ' σ' → Keep own σ σ' → Q σ' H
def tGs (K : PySem.W.Frag) (own : List Nat) (t : Tgs) : TGs := fun vs σ H Q => ∃ ds ρ g ι ρ', Reps K H ι ds vs ∧ ER K H ι ρ σ ∧ SR_ K H ι g ∧ t ds ρ = some ρ' ∧ ∀ σ', ER K H ι ρ' σ' → Keep own σ σ' → Q σ' H
abbrev GG (X : Cx) (own : List Nat) (e : Expr) (t : Tg) : Prop := PG X e (tG X.K own t)
structure GGs (X : Cx) (own : List Nat) (es : List Expr) (t : Tgs) (n : Nat) : Prop where
  run : PGs X es (tGs X.K own t)
  len : ∀ ds ρ ρ', t ds ρ = some ρ' → ds.length = n
theorem _root_.L2.PG.mono {e : Expr} {t t' : TG} (h : PG X e t) (i : ∀ v σ H Q, t' v σ H Q → t v σ H Q) : PG X e t' := ⟨fun pins s σ H v u Q I r q => h.run pins s σ H v u Q I r (i v σ H Q q)⟩
theorem _root_.L2.PGs.mono {e : List Expr} {t t' : TGs} (h : PGs X e t) (i : ∀ v σ H Q, t' v σ H Q → t v σ H Q) : PGs X e t' := ⟨fun pins s σ H v u Q I r q => h.run pins s σ H v u Q I r (i v σ H Q q)⟩
variable {own : List Nat}
theorem g_name (i : Nat) {x : Str} (hN : X.N.Nodup) (ho : i ∈ own := by decide) (hi : X.N[i]? = some x := by rfl) (hx : Loc X.env.scope x := by first | exact Or.inl rfl | exact Or.inr rfl) (hf : X.fn x = true ∨ X.env.scope.names.lookup x = some .local := by first | exact .inl rfl | exact .inr rfl | assumption) : GG X own (.Name x pos) (Py.gName i) :=
  (pg_name hN hi hx hf).mono fun v σ H Q ⟨d, ρ, g, ι, ρ', r, er, sr, h, k⟩ => by
    cases h
    exact k _ (er.set r i) ⟨by simp, fun j hj => List.getElem?_set_ne (fun (e : i = j) => hj (by rw [← e]; exact ho))⟩
theorem gs_nil : GGs X own [] Py.gNil 0 where
  run := pgs_nil.mono fun vs σ H Q ⟨ds, ρ, g, ι, ρ', r, er, sr, h, k⟩ => by
    cases r with
    | nil => cases h; exact ⟨rfl, k σ er (Keep.refl _ _)⟩
    | cons _ _ => cases h
  len := fun ds ρ ρ' h => by cases ds <;> simp [Py.gNil] at h ⊢
theorem gs_cons {t : Tg} {u : Tgs} {n : Nat} (h1 : GG X own e t) (h2 : GGs X own es u n) (hs : (assignEach (e :: es) X.env).map (·.2) = assign e X.env :: (assignEach es X.env).map (·.2) := by rfl) : GGs X own (e :: es) (Py.gCons t u) (n + 1) where
  run := (pgs_cons h1 h2.run hs).mono fun vs σ H Q ⟨ds, ρ, g, ι, ρ', r, er, sr, h, k⟩ => by
    cases r with
    | nil => cases h
    | @cons d v ds vs r1 r2 =>
      obtain ⟨ρ1, e1, e2⟩ := Option.bind_eq_some_iff.mp h
      exact ⟨v, vs, rfl, d, ρ, g, ι, ρ1, r1, er, sr, e1, fun σ' er' k1 => ⟨ds, ρ1, g, ι, ρ', r2, er', sr, e2, fun σ2 er2 k2 => k σ2 er2 (k1.trans k2)⟩⟩
  len := fun ds ρ ρ' h => by
    cases ds with
    | nil => cases h
    | cons d ds =>
      obtain ⟨ρ1, e1, e2⟩ := Option.bind_eq_some_iff.mp h
      simp [h2.len _ _ _ e2]
theorem g_tup {t : Tgs} {n k : Nat} (hc : X.calm = true) (h : GGs X own es t n) (hn : (assignEach es X.env).length = n := by rfl) (hst : (assignEach es X.env).findIdx? (·.1) = none := by rfl) : GG X own (.Tuple es k pos) (Py.gTup t) :=
  (pg_tup hc h.run hn hst).mono fun v σ H Q ⟨d, ρ, g, ι, ρ', r, er, sr, h', kk⟩ => by
    cases r with
    | @tup ds vs a ht hr => exact ⟨a, vs, rfl, ht, by rw [← hr.len]; exact h.len _ _ _ h', ds, ρ, g, ι, ρ', hr, er, sr, h', kk⟩
    | _ => cases h'
/-! ### statements -/
def PostS (K : PySem.W.Frag) (mg : Str → Option Value) (W : WX) (E : Ends) (H : Hp) (ι : List Addr) (r : SR) : Prop := match r with
  | .next ρ g => ∀ σ' H' ι', Ext K H H' ι ι' → SR_ K H' ι' g → ER K H' ι' ρ σ' → E.nx σ' H'
  | .brk ρ g => ∀ σ' H' ι', Ext K H H' ι ι' → SR_ K H' ι' g → ER K H' ι' ρ σ' → E.bk σ' H'
  | .cont ρ g => ∀ σ' H' ι', Ext K H H' ι ι' → SR_ K H' ι' g → ER K H' ι' ρ σ' → E.ct σ' H'
  | .ret d g => ∀ v H' ι', Ext K H H' ι ι' → SR_ K H' ι' g → Rep K H' ι' d v → E.rt v H'
  | .exc e ρ g => ∀ cls dx σ' H' ι', Ext K H H' ι ι' → SR_ K H' ι' g → ER K H' ι' ρ σ' → ExcR mg K H' ι' e cls dx → W cls dx σ' H'
  | .bad => False
def tS (K : PySem.W.Frag) (mg : Str → Option Value) (W : WX) (m : S) : TS := fun E σ H => ∃ ρ g ι, ER K H ι ρ σ ∧ SR_ K H ι g ∧ PostS K mg W E H ι (m ρ g)
abbrev SS (X : Cx) (W : WX) (st : Stmt) (m : S) : Prop := PS X st (tS X.K X.mg W m)
abbrev SSs (X : Cx) (W : WX) (sts : List Stmt) (m : S) : Prop := PSs X sts (tS X.K X.mg W m)
section
variable {K : PySem.W.Frag} {mg : Str → Option Value} {σ : St} {H H' : Hp} {ι ι' : List Addr} {E : Ends} {r : SR}
theorem PostS.ext (x : Ext K H H' ι ι') (p : PostS K mg W E H ι r) : PostS K mg W E H' ι' r := by
  cases r with
  | next ρ g => exact fun σ2 H2 ι2 y => p σ2 H2 ι2 (x.trans y)
  | brk ρ g => exact fun σ2 H2 ι2 y => p σ2 H2 ι2 (x.trans y)
  | cont ρ g => exact fun σ2 H2 ι2 y => p σ2 H2 ι2 (x.trans y)
  | ret d g => exact fun v H2 ι2 y => p v H2 ι2 (x.trans y)
  | exc e ρ g => exact fun c d σ2 H2 ι2 y => p c d σ2 H2 ι2 (x.trans y)
  | bad => exact p
theorem PostS.next {ρ : Env} {g : G} (p : PostS K mg W E H ι (.next ρ g)) (s : SR_ K H ι g) (er : ER K H ι ρ σ) : E.nx σ H := p σ H ι Ext.refl s er
/-- from an expression -/
theorem PostS.onR {α : Type} {o : R α} {k : α → G → SR} {ρ : Env} (er : ER K H ι ρ σ) (p : PostS K mg W E H ι (onR o ρ k)) : Post K mg W σ H ι o fun a g H' ι' => PostS K mg W E H' ι' (k a g) := by
  cases o with
  | ok a g => exact fun H2 ι2 y s => PostS.ext y p
  | exc e g => exact fun cls dx H2 ι2 y s z => p cls dx σ H2 ι2 y s (er.ext y) z
  | bad => exact p
end
variable {st : Stmt} {rest : List Stmt} {s1 s2 : S} {t : T}
theorem ss_cons (h1 : SS X W st s1) (h2 : SSs X W rest s2) : SSs X W (st :: rest) (sSeq s1 s2) := (pss_cons h1 h2).mono fun E σ H ⟨ρ, g, ι, er, s, p⟩ => by
  refine ⟨ρ, g, ι, er, s, ?_⟩
  unfold sSeq at p
  cases h : s1 ρ g with
  | next ρ1 g1 => rw [h] at p; exact fun σ' H' ι' x s' er' => ⟨ρ1, g1, ι', er', s', PostS.ext x p⟩
  | ret d g1 => rw [h] at p; exact p
  | brk ρ1 g1 => rw [h] at p; exact p
  | cont ρ1 g1 => rw [h] at p; exact p
  | exc e ρ1 g1 => rw [h] at p; exact p
  | bad => rw [h] at p; exact p
theorem ss_one (h1 : SS X W st s1) : SSs X W [st] s1 := pss_one h1
theorem ss_nil : SSs X W [] sNil := pss_nil.mono fun E σ H ⟨ρ, g, ι, er, s, p⟩ => p.next s er
theorem s_pass : SS X W (.Pass pos) sNil := ps_pass.mono fun E σ H ⟨ρ, g, ι, er, s, p⟩ => p.next s er
theorem s_break : SS X W (.Break pos) sBreak := ps_break.mono fun E σ H ⟨ρ, g, ι, er, s, p⟩ => p σ H ι Ext.refl s er
theorem s_cont : SS X W (.Continue pos) sCont := ps_continue.mono fun E σ H ⟨ρ, g, ι, er, s, p⟩ => p σ H ι Ext.refl s er
theorem s_expr (h : EE X W e m) (hs : swapsWith e none pos.line X.env = pure false := by rfl) : SS X W (.Expr e pos) (sExpr m) := (ps_expr h hs).mono fun E σ H ⟨ρ, g, ι, er, s, p⟩ => by
  exact ⟨ρ, g, ι, er, s, (PostS.onR er p).imp fun d1 g1 H1 ι1 _ x1 s1 p1 v1 r1 => p1.next s1 (er.ext x1)⟩
theorem s_ret (h : EE X W e m) : SS X W (.Return (some e) pos) (sRet m) := (ps_ret h).mono fun E σ H ⟨ρ, g, ι, er, s, p⟩ => by
  exact ⟨ρ, g, ι, er, s, (PostS.onR er p).imp fun d1 g1 H1 ι1 _ x1 s1 p1 v1 r1 => p1 v1 H1 ι1 Ext.refl s1 r1⟩
theorem s_retN : SS X W (.Return none pos) sRetN := ps_retN.mono fun E σ H ⟨ρ, g, ι, er, s, p⟩ => p _ H ι Ext.refl s .non
theorem s_if {a b : List Stmt} (hc : TTt X W c t) (ha : SSs X W a s1) (hb : SSs X W b s2) : SS X W (.If c a b pos) (sIf t s1 s2) := (ps_if hc ha hb).mono fun E σ H ⟨ρ, g, ι, er, s, p⟩ => by
  refine ⟨ρ, g, ι, er, s, (PostS.onR er p).imp fun k g1 H1 ι1 _ x1 s1 p1 => ?_⟩
  cases k with
  | true => exact ⟨ρ, g1, ι1, er.ext x1, s1, p1⟩
  | false => exact ⟨ρ, g1, ι1, er.ext x1, s1, p1⟩
theorem asg_post {K mg} {E : Ends} {tg : Tg} {σ : St} {H : Hp} (h : tS K mg W (sAsg m tg) E σ H) : tE K mg W m σ H fun x H1 => tG K own tg x σ H1 E.nx := by
  obtain ⟨ρ, g, ι, er, s, p⟩ := h
  refine ⟨ρ, g, ι, er, s, (PostS.onR er p).imp fun d1 g1 H1 ι1 _ x1 s1 p1 v1 r1 => ?_⟩
  cases h : tg d1 ρ with
  | none => rw [h] at p1; exact p1.elim
  | some ρ1 => rw [h] at p1; exact ⟨d1, ρ, g1, ι1, ρ1, r1, er.ext x1, s1, h, fun σ' er' _ => p1.next s1 er'⟩
theorem s_asg {g : Tg} {tgt : Expr} (h : EE X W e m) (hg : GG X own tgt g) (hs : swapsWithSole [tgt] e pos.line X.env = pure false := by rfl) (hw : swappedStores [tgt] e X.env = pure none := by rfl)
    (h1 : (assignEach [tgt] X.env).map (·.2) = [assign tgt X.env] := by rfl) : SS X W (.Assign [tgt] e pos) (sAsg m g) := (ps_asg h hg hs hw h1).mono fun E σ H h => asg_post h
theorem s_set (i : Nat) {x : Str} {pos' : Pos} (hN : X.N.Nodup) (h : EE X W e m) (hi : X.N[i]? = some x := by rfl) (hx : Loc X.env.scope x := by first | exact Or.inl rfl | exact Or.inr rfl) (hs : swapsWith e (some (.Name x pos')) pos.line X.env = pure false := by rfl)
    (hf : X.fn x = true ∨ X.env.scope.names.lookup x = some .local := by first | exact .inl rfl | exact .inr rfl | assumption) : SS X W (.Assign [.Name x pos'] e pos) (sAsg m (Py.gName i)) :=
  (ps_set hN hi hx h hs hf).mono fun E σ H h => by
    obtain ⟨ρ, g, ι, er, s, p⟩ := h
    refine ⟨ρ, g, ι, er, s, (PostS.onR er p).imp fun d1 g1 H1 ι1 _ x1 s1 p1 v1 r1 => ?_⟩
    exact p1.next s1 ((er.ext x1).set r1 i)
/-- o[i] = e, o a list -/
def tSetI (K : PySem.W.Frag) : TSet := fun o i v H Q => ∃ x k d g ι r xs j z, SR_ K H ι g ∧ Rep K H ι x o ∧ Rep K H ι k i ∧ Rep K H ι d v ∧ mutOf x g = some (r, xs) ∧ asI k = some z ∧ ix xs.length z = some j ∧
  ∀ H' ι', Ext K H H' ι ι' → SR_ K H' ι' (g.set r (.lst (xs.set j d))) → Q H'
theorem set_i : PSet X (tSetI X.K) := by
  intro pins s σ H o i v ov iv u Q I ro ri rv ⟨x, k, d, g, ι, r, xs, j, z, sr, h1, h2, h3, h4, h5, h6, q⟩
  obtain ⟨e1, hg⟩ := mutOf_inv h4
  subst e1
  cases asI_some h5
  cases h2
  cases h1 with
  | @ref _ a ha =>
    obtain ⟨vs, e2, hr⟩ := sr.lst ha hg
    exact set_list pins s σ H _ _ v ov iv u Q I ro ri rv ⟨a, vs, z, j, rfl, rfl, e2, by rw [← hr.len]; exact h6, q _ ι (Ext.wr e2) (sr.wrL hg ha (Reps.set h3 j hr) e2)⟩
theorem s_setI {o i : Expr} {mo mi : M} {p2 : Pos} (he : EE X W e m) (ho : EE X W o mo) (hi : EE X W i mi)
    (hgs : PG X (.Subscript o i p2) (gSub (tE X.K X.mg W mo) (tE X.K X.mg W mi) (tSetI X.K)))
    (hs : swapsWithSole [.Subscript o i p2] e pos.line X.env = pure false := by rfl) (hw : swappedStores [.Subscript o i p2] e X.env = pure none := by rfl)
    (h1 : (assignEach [.Subscript o i p2] X.env).map (·.2) = [assign (.Subscript o i p2) X.env] := by rfl) : SS X W (.Assign [.Subscript o i p2] e pos) (sSetI mo mi m) :=
  (ps_asg he hgs hs hw h1).mono fun E σ H ⟨ρ, g, ι, er, s, p⟩ => by
    refine ⟨ρ, g, ι, er, s, (PostS.onR er p).imp fun d1 g1 H1 ι1 _ x1 s1 p1 v1 r1 => ?_⟩
    refine ⟨ρ, g1, ι1, er.ext x1, s1, (PostS.onR (er.ext x1) p1).imp fun d2 g2 H2 ι2 _ x2 s2 p2 v2 r2 => ?_⟩
    refine ⟨ρ, g2, ι2, (er.ext x1).ext x2, s2, (PostS.onR ((er.ext x1).ext x2) p2).imp fun d3 g3 H3 ι3 _ x3 s3 p3 v3 r3 => ?_⟩
    cases hm : mutOf d2 g3 with
    | none => rw [hm] at p3; exact p3.elim
    | some q =>
      obtain ⟨r, xs⟩ := q
      cases hk : asI d3 with
      | none => rw [hm, hk] at p3; exact p3.elim
      | some z =>
        rw [hm, hk] at p3
        dsimp only at p3
        cases hj : ix xs.length z with
        | none => rw [hj] at p3; exact p3.elim
        | some j =>
          rw [hj] at p3
          exact ⟨d2, d3, d1, g3, ι3, r, xs, j, z, s3, r2.ext x3, r3, (r1.ext x2).ext x3, hm, hk, hj, fun H' ι' x s' => p3 σ H' ι' x s' ((((er.ext x1).ext x2).ext x3).ext x)⟩
theorem gsub_i {o i : Expr} {mo mi : M} {p2 : Pos} (ho : EE X W o mo) (hi : EE X W i mi)
    (ha : ∀ v, assign (.Subscript o i p2) X.env v = (do
      let ov ← holding [v] (eval o X.env)
      let iv ← holding [v, ov] (eval i X.env)
      standAt p2
      holding [v, ov, iv] (setItem ov iv v)
      release [v, ov, iv] []) := by intro _; rfl) : PG X (.Subscript o i p2) (gSub (tE X.K X.mg W mo) (tE X.K X.mg W mi) (tSetI X.K)) := pg_sub ho hi set_i ha
/-! ### for -/
theorem s_for {w : I} {tgt : Tg} {body : List Stmt} {iter tg : Expr} (hp : PassesOwn (model X.prog X.w) X.A X.env X.xe) (hc : X.calm = true) (hw : II X W tg iter w) (hg : GG X own tg tgt) (hb : SSs X W body s1)
    (hs : ∀ x, foldedSetIterable iter X.env x = pure x := by intro _; rfl) : SS X W (.For tg iter body [] pos) (sFor w tgt s1) := (ps_for hp hc hw hg hb hs).mono fun E σ H ⟨ρ, g, ι, er, s, p⟩ => by
  refine ⟨ρ, g, ι, er, s, (PostS.onR er p).imp fun it g1 H1 ι1 _ x1 s1' p1 J sim => ?_⟩
  refine ⟨fun i m σ H => ∃ ρ g ι, ER X.K H ι ρ σ ∧ SR_ X.K H ι g ∧ Ext X.K H1 H ι1 ι ∧ PostS X.K X.mg W E H ι (forGo it.get tgt s1 m i ρ g), ⟨it.n + 1, ρ, g1, ι1, er.ext x1, s1', Ext.refl, p1⟩, ?_⟩
  rintro i m σ2 H2 ⟨ρ2, g2, ι2, er2, sr2, ex2, p2⟩
  cases m with
  | zero => exact p2.elim
  | succ m =>
    obtain ⟨sim1, sim2⟩ := sim i H2 g2 ι2 ex2 sr2
    unfold forGo at p2
    cases hit : it.get i g2 with
    | none => rw [hit] at p2; exact p2.elim
    | some o =>
      cases o with
      | none => rw [hit] at p2; exact .inl ⟨sim1 hit, p2.next sr2 er2⟩
      | some d =>
        rw [hit] at p2
        obtain ⟨go, yl⟩ := sim2 d hit
        refine .inr ⟨go, fun σ' H' => ∃ ρ g ι, ER X.K H' ι ρ σ' ∧ SR_ X.K H' ι g ∧ Ext X.K H1 H' ι1 ι ∧ PostS X.K X.mg W E H' ι (forGo it.get tgt s1 m (i + 1) ρ g), fun σ' H' h => ⟨m, Nat.lt_succ_self m, h⟩, fun x H' hy => ?_⟩
        obtain ⟨e3, sr3, r3⟩ := yl x H' hy
        dsimp only at p2
        cases ht : tgt d ρ2 with
        | none => rw [ht] at p2; exact p2.elim
        | some ρ3 =>
          rw [ht] at p2
          refine ⟨d, ρ2, g2, ι2, ρ3, r3, er2.ext e3, sr3, ht, fun σ' er' _ => ⟨ρ3, g2, ι2, er', sr3, ?_⟩⟩
          dsimp only at p2
          cases hb : s1 ρ3 g2 with
          | next ρ4 g4 => rw [hb] at p2; exact fun σ4 H4 ι4 x4 s4 er4 => ⟨ρ4, g4, ι4, er4, s4, (ex2.trans e3).trans x4, PostS.ext (e3.trans x4) p2⟩
          | cont ρ4 g4 => rw [hb] at p2; exact fun σ4 H4 ι4 x4 s4 er4 => ⟨ρ4, g4, ι4, er4, s4, (ex2.trans e3).trans x4, PostS.ext (e3.trans x4) p2⟩
          | brk ρ4 g4 => rw [hb] at p2; exact fun σ4 H4 ι4 x4 s4 er4 => p2 σ4 H4 ι4 (e3.trans x4) s4 er4
          | ret d4 g4 => rw [hb] at p2; exact fun v4 H4 ι4 x4 s4 r4 => p2 v4 H4 ι4 (e3.trans x4) s4 r4
          | exc e4 ρ4 g4 => rw [hb] at p2; exact fun c4 d4 σ4 H4 ι4 x4 => p2 c4 d4 σ4 H4 ι4 (e3.trans x4)
          | bad => rw [hb] at p2; exact p2.elim
end
end Py
end

section
set_option Elab.async false
set_option linter.all false
set_option maxRecDepth 100000
set_option autoImplicit false
/-! Soundness of comprehensions, calls of defs, defs. -/
namespace Py
open PySem L2
section
variable {K : PySem.W.Frag} {mg : Str → Option Value} {W : WX} {H H' : Hp} {ι ι' : List Addr}
theorem wipe_len : ∀ (vs : List Nat) (ρ : Env), (Py.wipe ρ vs).length = ρ.length
  | [], _ => rfl
  | v :: vs, ρ => by unfold Py.wipe; rw [List.length_set, wipe_len vs ρ]
theorem wipe_get {i : Nat} {d : D} : ∀ (vs : List Nat) (ρ : Env), (Py.wipe ρ vs)[i]? = some (some d) → ρ[i]? = some (some d) ∧ i ∉ vs
  | [], _, h => ⟨h, by simp⟩
  | v :: vs, ρ, h => by
    unfold Py.wipe at h
    by_cases hi : v = i
    · subst hi
      by_cases hl : v < (Py.wipe ρ vs).length
      · rw [List.getElem?_set_self hl] at h; cases h
      · rw [List.getElem?_eq_none (by simpa using hl)] at h; cases h
    · rw [List.getElem?_set_ne hi] at h
      obtain ⟨h1, h2⟩ := wipe_get vs ρ h
      exact ⟨h1, fun hm => (List.mem_cons.mp hm).elim (fun e => hi e.symm) h2⟩
theorem ER.wipe {ρ : Env} {σ : St} (er : ER K H ι ρ σ) (vs : List Nat) : ER K H ι (Py.wipe ρ vs) (L2.wipe σ vs) := by
  refine ⟨by rw [wipe_len, wipe_length]; exact er.len, fun i d h => ?_⟩
  obtain ⟨h1, h2⟩ := wipe_get vs ρ h
  obtain ⟨v, h3, h4⟩ := er.at_ i d h1
  exact ⟨v, by rw [wipe_out h2]; exact h3, h4⟩
theorem wipe_in {σ : St} {i : Nat} : ∀ {vs : List Nat}, i ∈ vs → i < σ.length → (L2.wipe σ vs)[i]? = some none
  | [], h, _ => by cases h
  | v :: vs, h, hl => by
    unfold L2.wipe
    by_cases e : v = i
    · subst e
      rw [List.getElem?_set_self (by rw [wipe_length]; exact hl)]
    · rw [List.getElem?_set_ne e]
      exact wipe_in ((List.mem_cons.mp h).elim (fun z => absurd z.symm e) id) hl
theorem keep_wipe {σ σ' : St} {vs : List Nat} (k : Keep vs (L2.wipe σ vs) σ') : L2.wipe σ' vs = L2.wipe σ vs := by
  have hl : σ'.length = σ.length := by rw [k.1, wipe_length]
  apply List.ext_getElem?
  intro i
  by_cases hi : i < σ.length
  · by_cases hm : i ∈ vs
    · rw [wipe_in hm (by omega), wipe_in hm hi]
    · rw [wipe_out hm, k.2 i hm]
  · rw [List.getElem?_eq_none (by rw [wipe_length]; omega), List.getElem?_eq_none (by rw [wipe_length]; omega)]
theorem mutOf_at {r : Nat} {g : G} {q : Nat} {xs : List D} (h : mutOf (.ref r) g = some (q, xs)) : g[r]? = some (.lst xs) := (mutOf_ref h).2
/-- a comprehension's reading -/
theorem lc_read {w : I} {t : Tg} {c : T} {m : M} {own : List Nat} {σ : St} {Q : VK} (h : tE K mg W (mLc w t c m own) σ H Q) :
    tLc (tI K mg W w) (tG K own t) (tT K mg W0 c) (tE K mg W0 m) own σ H Q := by
  obtain ⟨ρ, g, ι, er, s, p⟩ := h
  refine ⟨ρ, g, ι, er, s, (Post.bind p).imp fun it g1 H1 ι1 _ x1 s1 p1 J sim D hD => ?_⟩
  have key : ∀ H ι, SR_ K H ι g1 → H D = none → Ext K H1 H ι1 ι → ι.length = g1.length → (ι ++ [D])[g1.length]? = some D := fun H ι _ _ _ hl => by rw [← hl]; simp
  refine ⟨fun i n H => ∃ g ι, SR_ K H ι g ∧ Ext K H1 H ι1 ι ∧ ι[g1.length]? = some D ∧ Post K mg W σ H ι (lcGo it.get t c m (Py.wipe ρ own) g1.length n i g) fun d _ H' ι' => ∀ v, Rep K H' ι' d v → Q v H',
    ⟨it.n + 1, g1 ++ [.lst []], ι1 ++ [D], s1.newL hD .nil, (Ext.new hD).trans Ext.snoc, by rw [← s1.len]; simp, Post.ext ((Ext.new hD).trans Ext.snoc) p1⟩, ?_⟩
  rintro i n H2 ⟨g2, ι2, s2, x2, hr, p2⟩
  cases n with
  | zero => exact p2.elim
  | succ n =>
    obtain ⟨sim1, sim2⟩ := sim i H2 g2 ι2 x2 s2
    unfold lcGo at p2
    cases hit : it.get i g2 with
    | none => rw [hit] at p2; exact p2.elim
    | some o =>
      cases o with
      | none => rw [hit] at p2; exact .inl ⟨sim1 hit, p2.ok s2 _ (.ref hr)⟩
      | some d =>
        rw [hit] at p2
        dsimp only at p2
        obtain ⟨go, yl⟩ := sim2 d hit
        refine .inr ⟨go, fun H => ∃ g ι, SR_ K H ι g ∧ Ext K H1 H ι1 ι ∧ ι[g1.length]? = some D ∧ Post K mg W σ H ι (lcGo it.get t c m (Py.wipe ρ own) g1.length n (i + 1) g) fun d _ H' ι' => ∀ v, Rep K H' ι' d v → Q v H',
          fun H' h => ⟨n, Nat.lt_succ_self n, h⟩, fun x H3 hy => ?_⟩
        obtain ⟨x3, s3, r3⟩ := yl x H3 hy
        cases ht : t d (Py.wipe ρ own) with
        | none => rw [ht] at p2; exact p2.elim
        | some ρ2 =>
          rw [ht] at p2
          dsimp only at p2
          refine ⟨d, Py.wipe ρ own, g2, ι2, ρ2, r3, ((er.wipe own).ext (x1.trans x2)).ext x3, s3, ht, fun σ2 er2 kp => ⟨keep_wipe kp, ρ2, g2, ι2, er2, s3, ?_⟩⟩
          cases hc : c ρ2 g2 with
          | bad => rw [hc] at p2; exact p2.elim
          | exc e g3 => rw [hc] at p2; exact p2.elim
          | ok b g3 =>
            rw [hc] at p2
            cases b with
            | false =>
              intro H4 ι4 x4 s4
              exact ⟨g3, ι4, s4, (x2.trans x3).trans x4, x4.pre _ _ (x3.pre _ _ hr), Post.ext (x3.trans x4) p2⟩
            | true =>
              dsimp only at p2
              intro H4 ι4 x4 s4
              refine ⟨ρ2, g3, ι4, er2.ext x4, s4, ?_⟩
              cases hm : m ρ2 g3 with
              | bad => rw [hm] at p2; exact p2.elim
              | exc e g4 => rw [hm] at p2; exact p2.elim
              | ok y g4 =>
                rw [hm] at p2
                dsimp only at p2
                intro H5 ι5 x5 s5 v5 r5
                cases hq : mutOf (.ref g1.length) g4 with
                | none => rw [hq] at p2; exact p2.elim
                | some q =>
                  obtain ⟨q, xs⟩ := q
                  rw [hq] at p2
                  dsimp only at p2
                  have hr5 := x5.pre _ _ (x4.pre _ _ (x3.pre _ _ hr))
                  have hg := mutOf_at hq
                  obtain ⟨acc, h6, h7⟩ := s5.lst hr5 hg
                  by_cases hl : xs.length < LINE
                  · rw [if_pos hl] at p2
                    refine ⟨acc, h6, by rw [← h7.len, line_eq]; exact hl, _, ι5, s5.wrL hg hr5 (h7.append (.cons r5 .nil)) h6, ?_, hr5, ?_⟩
                    · exact (((x2.trans x3).trans x4).trans x5).trans (Ext.wr h6)
                    · exact Post.ext (((x3.trans x4).trans x5).trans (Ext.wr h6)) p2
                  · rw [if_neg hl] at p2
                    exact p2.elim
end
section
variable {X : Cx} {W : WX} {a b c e : Expr} {es : List Expr} {pos : Pos} {ma mb m : M}
theorem cs_nil : PTs X [] (tT X.K X.mg W Py.tYes) := ⟨fun pins s σ H Q I ⟨ρ, g, ι, er, sr, p⟩ => pts_nil.run pins s σ H Q I (p.ok sr)⟩
theorem cs_one {t : T} (h : TTt X W c t) : PTs X [c] (tT X.K X.mg W t) := pts_one h
theorem e_lc {elt tg iter : Expr} {ifs : List Expr} {scope : Scope} (own : List (Str × Nat)) {w : I} {tgt : Tg} {t : T} (hc : X.calm = true) (hN : X.N.Nodup) (hi : II X W tg iter w) (ok : BlkOk X.N X.env.scope scope own)
    (hg : ∀ (s : Shared) (H : Hp) (C : Addr) (cl : List (Str × Addr)) (fp : List Addr), GG (X.blk s H scope (compEnvC scope cl C X.env) fp) (own.map (·.2)) tg tgt)
    (ht : ∀ (s : Shared) (H : Hp) (C : Addr) (cl : List (Str × Addr)) (fp : List Addr), PTs (X.blk s H scope (compEnvC scope cl C X.env) fp) ifs (tT X.K X.mg W0 t))
    (he : ∀ (s : Shared) (H : Hp) (C : Addr) (cl : List (Str × Addr)) (fp : List Addr), EE (X.blk s H scope (compEnvC scope cl C X.env) fp) W0 elt m) (hs : ∀ x, foldedSetIterable iter X.env x = pure x := by intro _; rfl) :
    EE X W (.ListComp elt [⟨tg, iter, ifs, 0⟩] scope pos) (mLc w tgt t m (own.map (·.2))) := (pe_lc hc hN hi ok hg ht he hs).mono fun σ H Q h => lc_read h
theorem s_setLc (i : Nat) {y : Str} {py spos : Pos} {elt tg iter : Expr} {ifs : List Expr} {scope : Scope} (own : List (Str × Nat)) {w : I} {tgt : Tg} {t : T} (hc : X.calm = true) (hN : X.N.Nodup)
    (hi : II X W tg iter w) (ok : BlkOk X.N X.env.scope scope own)
    (hg : ∀ (s : Shared) (H : Hp) (C : Addr) (cl : List (Str × Addr)) (fp : List Addr), GG (X.blk s H scope (compEnvC scope cl C X.env) fp) (own.map (·.2)) tg tgt)
    (ht : ∀ (s : Shared) (H : Hp) (C : Addr) (cl : List (Str × Addr)) (fp : List Addr), PTs (X.blk s H scope (compEnvC scope cl C X.env) fp) ifs (tT X.K X.mg W0 t))
    (he : ∀ (s : Shared) (H : Hp) (C : Addr) (cl : List (Str × Addr)) (fp : List Addr), EE (X.blk s H scope (compEnvC scope cl C X.env) fp) W0 elt m)
    (hy : X.N[i]? = some y := by rfl) (hyl : X.env.scope.names.lookup y = some .local := by rfl)
    (hsw : swapsWith (.ListComp elt [⟨tg, iter, ifs, 0⟩] scope pos) (some (.Name y py)) spos.line X.env = pure true := by exact sw_true rfl rfl rfl (by decide +kernel)) (hs : ∀ x, foldedSetIterable iter X.env x = pure x := by intro _; rfl) :
    SS X W (.Assign [.Name y py] (.ListComp elt [⟨tg, iter, ifs, 0⟩] scope pos) spos) (sAsg (mLc w tgt t m (own.map (·.2))) (Py.gName i)) := (ps_setLc hc hN hy hyl hsw hi ok hg ht he hs).mono fun E σ H ⟨ρ, g, ι, er, s, p⟩ => by
  refine lc_read ⟨ρ, g, ι, er, s, (PostS.onR er p).imp fun d1 g1 H1 ι1 _ x1 s1 p1 v1 r1 => ?_⟩
  exact p1.next s1 ((er.ext x1).set r1 i)
/-! ### defs -/
/-- what a def promises: f of the data -/
def spF (K : PySem.W.Frag) (mg : Str → Option Value) (n : Nat) (f : F) : Sp := fun vs H Q E => ∃ ds g ι, SR_ K H ι g ∧ Reps K H ι ds vs ∧ ds.length = n ∧ Post K mg (fun c d _ H' => E c d H') [] H ι (f ds g) fun d _ H' ι' => ∀ v, Rep K H' ι' d v → Q v H'
/-- the wish of exceptions -/
abbrev wx (E : XK) : WX := fun c d _ H => E c d H
theorem post_w {K mg} {α : Type} {E : XK} {σ σ' : St} {H : Hp} {ι : List Addr} {r : R α} {k : α → G → Hp → List Addr → Prop} (p : Post K mg (wx E) σ H ι r k) : Post K mg (wx E) σ' H ι r k := by
  cases r <;> exact p
/-- a def that may be called by its name -/
structure Cal (P : Program) (w : World) (K : PySem.W.Frag) (mg : Str → Option Value) (base : Heap) (CX : CXT) (k : Nat) (x : Str) (n : Nat) (f : F) : Prop where
  ex : ∃ (a : Addr) (fd : FuncData) (ps : List Str), FnOk P w K mg base CX k a fd ps (spF K mg n f) ∧ mg x = some (.ref a) ∧ PySem.W.keepIn K (.ref a) = true ∧ Binds K fd ps []
variable {CX : CXT} {k j n : Nat} {x : Str} {p : Pos} {f : F} {E : XK} {as : A}
theorem e_call (cl : Cal X.prog X.w X.K X.mg X.base CX k x n f) (hr : Room j X.A) (hk : k ≤ j) (hx : Passes CX X E) (ha : AA X (wx E) (e :: es) as) (hg : Gl X x := by rfl)
    (hdb : (x == ("__debug__" : Str)) = false := by decide) (he : starEach (e :: es) X.env = (false, eval e X.env) :: starEach es X.env := by rfl) (hpl : (backTo pos (starEach es X.env)).any (·.1) = false := by rfl)
    (hn : ∀ ρ g ds g', as ρ g = .ok ds g' → ds.length = n) : EE X (wx E) (.Call (.Name x p) (e :: es) [] pos) (mCall f as) := by
  obtain ⟨a, fd, ps, F, hm, kp, b⟩ := cl.ex
  refine (pe_call F (hr.mono hk) hg hm kp b .nil hx ha hdb he hpl).mono fun σ H Q ⟨ρ, g, ι, er, s, p⟩ => ?_
  refine ⟨ρ, g, ι, er, s, (Post.bind p).imp fun ds g1 H1 ι1 e1 x1 s1 p1 vs rs => ?_⟩
  show spF X.K X.mg n f (vs ++ []) H1 Q E
  rw [List.append_nil]
  exact ⟨ds, g1, ι1, s1, rs, hn ρ g ds g1 e1, post_w p1⟩
theorem e_call0 (cl : Cal X.prog X.w X.K X.mg X.base CX k x 0 f) (hr : Room j X.A) (hk : k ≤ j) (hx : Passes CX X E) (hg : Gl X x := by rfl)
    (hdb : (x == ("__debug__" : Str)) = false := by decide) : EE X (wx E) (.Call (.Name x p) [] [] pos) (mCall f mNil) := by
  obtain ⟨a, fd, ps, F, hm, kp, b⟩ := cl.ex
  refine (pe_call0 F (hr.mono hk) hg hm kp b .nil hx hdb).mono fun σ H Q ⟨ρ, g, ι, er, s, p⟩ => ?_
  exact ⟨[], g, ι, s, .nil, rfl, post_w p⟩
theorem as_nil {n : Nat} (h : n = 0) : ∀ ρ g ds g', mNil ρ g = .ok ds g' → ds.length = n := fun ρ g ds g' e => by cases e; exact h.symm
theorem as_cons {m : M} {as : A} {n : Nat} (h : ∀ ρ g ds g', as ρ g = .ok ds g' → ds.length = n) : ∀ ρ g ds g', mCons m as ρ g = .ok ds g' → ds.length = n + 1 := fun ρ g ds g' e => by
  unfold mCons at e
  cases h1 : m ρ g with
  | ok d g1 =>
    rw [h1] at e
    simp only [Py.R.bind_ok] at e
    cases h2 : as ρ g1 with
    | ok es g2 =>
      rw [h2] at e
      simp only [Py.R.bind_ok] at e
      cases e
      simp [h ρ g1 es _ h2]
    | exc x g2 => rw [h2] at e; cases e
    | bad => rw [h2] at e; cases e
  | exc x g1 => rw [h1] at e; cases e
  | bad => rw [h1] at e; cases e
/-- the start of a def -/
theorem er_start {K : PySem.W.Frag} {H : Hp} {ι : List Addr} {ds : List D} {vs : List V} (N : List Str) (r : Reps K H ι ds vs) : ER K H ι (ds.map some ++ List.replicate (N.length - ds.length) none) (L2.start N vs) := by
  refine ⟨by unfold L2.start; simp [r.len], fun i d h => ?_⟩
  by_cases hi : i < ds.length
  · rw [List.getElem?_append_left (by simpa using hi), List.getElem?_map, Option.map_eq_some_iff] at h
    obtain ⟨d', h1, h2⟩ := h
    cases h2
    obtain ⟨v, h3, h4⟩ := r.get h1
    exact ⟨v, by unfold L2.start; rw [List.getElem?_append_left (by rw [List.length_map, ← r.len]; exact hi), List.getElem?_map, h3]; rfl, h4⟩
  · rw [List.getElem?_append_right (by simpa using hi)] at h
    have := List.getElem?_eq_some_iff.mp h
    obtain ⟨hl, e⟩ := this
    simp at e
/-- a def's body read from its promise -/
theorem body_read {K : PySem.W.Frag} {mg : Str → Option Value} {n m : Nat} {b : S} {N : List Str} {vs : List V} {H : Hp} {Q : VK} {E : XK} (hm : N.length = m) (h : spF K mg n (fn n m b) vs H Q E) :
    tS K mg (wx E) b { nx := fun _ H' => Q .non H', rt := Q } (L2.start N vs) H := by
  obtain ⟨ds, g, ι, s, r, hl, p⟩ := h
  unfold fn at p
  rw [if_pos hl] at p
  subst hm
  have er := er_start N r
  rw [← hl] at p
  refine ⟨_, g, ι, er, s, ?_⟩
  cases hb : b (ds.map some ++ List.replicate (N.length - ds.length) none) g with
  | next ρ g1 => rw [hb] at p; exact fun σ' H' ι' x s' er' => p H' ι' x s' _ .non
  | ret d g1 => rw [hb] at p; exact fun v H' ι' x s' r' => p H' ι' x s' v r'
  | exc e ρ g1 => rw [hb] at p; exact fun c d σ' H' ι' x s' er' z => p c d H' ι' x s' z
  | brk ρ g1 => rw [hb] at p; exact p.elim
  | cont ρ g1 => rw [hb] at p; exact p.elim
  | bad => rw [hb] at p; exact p.elim
theorem sp_len {K : PySem.W.Frag} {mg : Str → Option Value} {n : Nat} {f : F} {ps : List Str} (h : ps.length = n) : ∀ vs H Q E, spF K mg n f vs H Q E → vs.length = ps.length := fun vs H Q E ⟨ds, g, ι, s, r, hl, p⟩ => by rw [h, ← hl, r.len]
theorem pass_0 {X : Cx} {E : XK} : Passes CX0 X E := fun _ _ _ _ _ _ _ h => h.elim
/-- a def that is never asked -/
theorem cal_bad {P : Program} {w : World} {K : PySem.W.Frag} {mg : Str → Option Value} {base : Heap} {CX : CXT} {k n : Nat} {x : Str} {a : Addr} {fd : FuncData} {ps : List Str} (kp : PySem.W.keepIn K (.ref a) = true) (hm : mg x = some (.ref a)) (b : Binds K fd ps []) (hl : ps.length = n) :
    Cal P w K mg base CX k x n fun _ _ => .bad := ⟨a, fd, ps, ⟨sp_len hl, fun A outer s H args us vs Q E hr he hb hv hs => by
  obtain ⟨ds, g, ι, _, _, _, p⟩ := hs
  exact p.elim⟩, hm, kp, b⟩
end
end Py
end

section
set_option Elab.async false
set_option linter.all false
set_option maxRecDepth 100000
set_option maxHeartbeats 2000000
/-! enumerate of a tuple; the joined rule. -/
namespace PyI
open PySem PySem.Spec PyProof.Rows L2
open AutoSeq1 (wpAny_loadPart')
theorem meets_enumT (l : Addr) (items : Array Value) :
    Meets (Builtin.«enumerate.__new__» ⟨[.type "enumerate", .ref l], []⟩) (fun _ R s => s.heap.IsTuple l items ∧
      R (.ok (.ret (.ref (s.heap.push { cls := .type "tuple_iterator", data := .fields #[.ref l, .int 0 0] }).objs.size)))
        { s with heap := (s.heap.push { cls := .type "tuple_iterator", data := .fields #[.ref l, .int 0 0] }).push { cls := .type "enumerate", data := .fields #[.none, .bool false, .ref s.heap.objs.size, rawInt 0, .none, .none] } }) :=
  .of_wp fun prog w A R s h => by
    obtain ⟨hp, g, d, tk, os⟩ := s; obtain ⟨hL, h⟩ := h
    have hsub := sub_enumerate
    wp_walk
    refine wpAny_stack_any fun st => wpAny_pure ?_
    split
    · rename_i c _ _ _ _ _
      cases (c == Value.type "enumerate") <;> (wp_walk using wpAny_pyIter_tuple hL; exact ⟨_, rfl, h⟩)
    · (wp_walk using wpAny_pyIter_tuple hL; exact ⟨_, rfl, h⟩)
theorem call_enumT {prog : Program} {w : World} {A : Around} {E : Value → Shared → Prop} {s : Shared} {l : Addr} {items : Array Value} {Q : Value → Shared → Prop} (hL : s.heap.IsTuple l items)
    (h : ∀ h', IsEnum h' (s.heap.objs.size + 1) s.heap.objs.size 0 .none → h'.IsTupleIter s.heap.objs.size l 0 → h'.objs.size = s.heap.objs.size + 2 → (∀ b o, s.heap.get? b = some o → h'.get? b = some o) → Q (.ref (s.heap.objs.size + 1)) { s with heap := h' }) :
    wpAny (model prog w) A (call (.type "enumerate") [.ref l]) Q E s := by
  refine callType_new F.called_enumerate (by decide) (F.typeCall_enumerate_1 _) (F.newCall_enumerate_1 _) (fun obj => F.args_object_init_2 obj _) F.entry_enumerate_new (meets_enumT l items) ⟨hL, ?_⟩
  have hz : (s.heap.push { cls := .type "tuple_iterator", data := .fields #[.ref l, .int 0 0] }).objs.size = s.heap.objs.size + 1 := Heap.size_push ..
  show _ ∧ _
  rw [hz]
  have he : IsEnum ((s.heap.push { cls := .type "tuple_iterator", data := .fields #[.ref l, .int 0 0] }).push { cls := .type "enumerate", data := .fields #[.none, .bool false, .ref s.heap.objs.size, rawInt 0, .none, .none] }) (s.heap.objs.size + 1) s.heap.objs.size 0 .none := by
    have := Heap.get?_push_size (s.heap.push { cls := .type "tuple_iterator", data := .fields #[.ref l, .int 0 0] }) (o := { cls := .type "enumerate", data := .fields #[.none, .bool false, .ref s.heap.objs.size, rawInt 0, .none, .none] }) rfl
    rw [hz] at this; exact this
  refine ⟨⟨_, he, rfl⟩, h _ he ⟨_, Heap.get?_push_of_some _ (Heap.get?_push_size _ rfl), rfl, rfl⟩ (by rw [Heap.size_push, hz]) fun b o x => Heap.get?_push_of_some _ (Heap.get?_push_of_some _ x)⟩
/-- the tuple at a, each item in a new pair -/
def IteT (K : PySem.W.Frag) (a : Addr) : It :=
  ⟨fun i H => ∃ (xs : List V) (x : V), SqT K H a xs ∧ xs[i]? = some x, fun i H v H' => ∃ T x, v = .ref T ∧ H T = none ∧ H' = upd H T (.tup [.int (i : Nat), x]) ∧ ∀ xs, SqT K H a xs → xs[i]? = some x, fun i H => ∃ xs : List V, SqT K H a xs ∧ xs.length ≤ i⟩
theorem turn_enumT {P : Program} {w : World} {K : PySem.W.Frag} {elts : List Expr} {kk : Nat} {tpos : Pos} (a e it : Addr) (hne : e ≠ it) (hai : a ≠ it) (hae : a ≠ e) :
    Turn P w K (.Tuple elts kk tpos) (IteT K a) [e, it] e (fun i h => (∃ old, IsEnum h e it ((i : Nat) : Int) old) ∧ h.IsTupleIter it a i) where
  mem := by simp
  obj := fun i h st b hb => by
    obtain ⟨⟨old, he⟩, o, ho, hc, hd⟩ := st
    rcases (show b = e ∨ b = it by simpa using hb) with z | z
    · rw [z]; exact ⟨_, he, fun v q => nomatch q⟩
    · rw [z]; exact ⟨o, ho, fun v q => by rw [hd] at q; cases q⟩
  keep := fun i h h' st k => let ⟨⟨old, he⟩, hi⟩ := st; ⟨⟨old, k e (by simp) _ he⟩, hi.at fun o q => k it (by simp) o q⟩
  item := by
    intro X hP hw hK hc i pins s σ H E I hf st hg
    subst hP hw hK
    obtain ⟨⟨old, he⟩, hit⟩ := st
    obtain ⟨xs, x, hq, hx⟩ := hg
    obtain ⟨its, rv, p, hz⟩ := I.tuple hq
    obtain ⟨u, hu, ru⟩ := rv.get hx
    have hel : e < s.heap.objs.size := Heap.lt_size he
    have hil : it < s.heap.objs.size := by obtain ⟨_, q, _⟩ := hit; exact Heap.lt_size q
    have hD := Draws.tuple (prog := X.prog) (w := X.w) (A := X.A.in1) (I.ok.hd hc) it a hai its.toArray
    have hlt : i < its.toArray.size := by
      have := (List.getElem?_eq_some_iff.mp hu).1
      simpa using this
    refine wpAny_pyNext_enum_itemD hD he ⟨hit, p⟩ hlt hne (by simp [hne, Ne.symm hae]) fun y h' tk hy ho hst hT hsz hk => ?_
    obtain ⟨hit', _⟩ := hst
    have ey : y = u := by
      have hy' : its[i]? = some y := by simpa using hy
      rw [hu] at hy'; exact (Option.some.inj hy').symm
    subst ey
    refine ⟨_, rfl, wpAny_letOwnedTupleGo_enum (s := { s with heap := h', toks := tk + 1 }) ho fun h'' he' sb => ?_⟩
    have hT2 : h''.get? s.heap.objs.size = some { cls := .type "tuple", data := .seq #[.int i tk, y] } := (sb.2 _ (Nat.ne_of_gt hel)).trans hT
    have new : ObjOk X.prog X.w (upd H s.heap.objs.size (.tup [.int (i : Nat), x])) h'' s.heap.objs.size (.tup [.int (i : Nat), x]) :=
      ⟨by show 2 ≤ sizeLine; decide, [.int i tk, y], .cons ⟨_, rfl⟩ (.cons ru .nil), ⟨_, hT2, rfl, _, rfl⟩⟩
    have I1 : Inv X pins σ (upd H s.heap.objs.size (.tup [.int (i : Nat), x])) { s with heap := h'', toks := tk + 1 } :=
      I.turnedNew (ch := [e, it]) (fun b ob hb q => (sb.2 b (fun z => hb (by simp [z]))).trans (hk b ob (fun z => hb (by simp [z])) (fun z => hb (by simp [z])) q)) hf (Nat.le_refl _) new
    refine ⟨.ref s.heap.objs.size, _, I1, rfl, ⟨_, x, rfl, I.hok.fresh (Nat.le_refl _), rfl, fun ys hy => by rw [I.tuple_inj hy hq]; exact hx⟩, ⟨⟨y, ?_⟩, hit'.at fun o q => (sb.2 it (Ne.symm hne)).trans q⟩, fun b hb => ?_⟩
    · have e1 : ((i + 1 : Nat) : Int) = (i : Int) + 1 := by omega
      rw [e1]; exact he'
    · have hb' : b < s.heap.objs.size := by
        rcases (show b = e ∨ b = it by simpa using hb) with z | z
        · rw [z]; exact hel
        · rw [z]; exact hil
      rw [upd_ne (Nat.ne_of_lt hb')]
      exact (hf b hb).1
  done := by
    intro X hP hw hK hc i pins s σ H E I hf st hg
    subst hP hw hK
    obtain ⟨⟨old, he⟩, hit⟩ := st
    obtain ⟨xs, hq, hx⟩ := hg
    obtain ⟨its, rv, p, hz⟩ := I.tuple hq
    obtain ⟨f0, f1, f2, f3, f4, f5⟩ := hf it (by simp)
    have hl := rv.length
    have hT : s.TypeIs (.ref e) "enumerate" := ⟨_, he, rfl⟩
    have hh : X.A.handled = none := I.ok.hd hc
    unfold pyNext
    refine wpAny_bind (wpAny_attempt (wpAny_callSpecial?_slot (name := Str.ofString "__next__") hT F.slot_enumerate_next (wpAny_call_entry F.slot_enumerate_next hT F.entry_enumerate_next ?_ (F.args_enumerate_next_1 _))))
    show wpAny _ _ (field (.ref e) 2 >>= _) _ _ _
    refine wpAny_bind (wpAny_field he rfl (x := .ref it) rfl (wpAny_bind (wpAny_nextOf_tuple_end (A := X.A.in1) hh hit p (by simp; omega) fun h' x he' hx' => ?_)))
    obtain ⟨o, ho, hc'⟩ := hx'
    refine wpAny_bind (wpAny_isInstance (T := "StopIteration") (b := true) ⟨o, ho, hc'⟩ isSubtype_stop ?_)
    exact wpAny_pure ⟨rfl, I.turned (t' := s.toks) (fun b o hb q => he' b o hb q) f0 f1 f3 f4 f5⟩
  self := fun A i s Q E st h => let ⟨⟨_, he⟩, _⟩ := st; wpAny_pyIter_enum he h
/-- enumerate of a list, of a tuple -/
def iEnumA (K : PySem.W.Frag) (ta : TA) : TI := fun σ H R => ta σ H fun vs H1 => ∃ a xs, vs = [.ref a] ∧ ((SqL K H1 a xs ∧ R (Ite K a) H1) ∨ (SqT K H1 a xs ∧ R (IteT K a) H1))
theorem pi_enumA {X : Cx} {e : Expr} {ta : TA} {p pos tpos : Pos} {elts : List Expr} {kk : Nat} (hg : Gl X "enumerate") (hm : X.mg "enumerate" = none) (ha : PA X [e] ta) (hs : starEach [e] X.env = [(false, eval e X.env)] := by rfl) :
    PI X (.Tuple elts kk tpos) (.Call (.Name "enumerate" p) [e] [] pos) (iEnumA X.K ta) := by
  refine ⟨fun pins s σ H R I h => Call_ (ld_blt I hg hm boot_enumerate (PyProof.Rows.callWith_type1 (thn (ha.run pos pins s σ H _ I h) fun us s1 ⟨vs, H1, I1, r1, q1⟩ => ?_) hs rfl))⟩
  obtain ⟨a, xs, ex, hq⟩ := q1
  subst ex
  cases r1 with
  | cons r rr =>
    cases rr
    cases r
    have fp : ∀ b ∈ [s1.heap.objs.size + 1, s1.heap.objs.size], FpOk X pins H1 b := fun b hb => by
      have hle : s1.heap.objs.size ≤ b := by
        rcases (show b = s1.heap.objs.size + 1 ∨ b = s1.heap.objs.size by simpa using hb) with z | z
        · rw [z]; exact Nat.le_add_right _ _
        · rw [z]; exact Nat.le_refl _
      exact I1.fpOk hle (I1.hok.fresh hle)
    rcases hq with ⟨hq, q⟩ | ⟨hq, q⟩
    · obtain ⟨its, rv, p', hz⟩ := I1.list hq
      refine call_enumerate_list p'.isList fun h' he hit hsz hk => wpAny_pyIter_enum he ?_
      exact ⟨s1.heap.objs.size + 1, [s1.heap.objs.size + 1, s1.heap.objs.size], _, _, H1, rfl, I1.kept (t' := s1.toks) hk, turn_enum a (s1.heap.objs.size + 1) s1.heap.objs.size, ⟨⟨.none, he⟩, hit, Nat.succ_ne_self _⟩, fp, q⟩
    · obtain ⟨its, rv, p', hz⟩ := I1.tuple hq
      have hlt : a < s1.heap.objs.size := by obtain ⟨_, q, _⟩ := p'; exact Heap.lt_size q
      refine call_enumT p' fun h' he hit hsz hk => wpAny_pyIter_enum he ?_
      exact ⟨s1.heap.objs.size + 1, [s1.heap.objs.size + 1, s1.heap.objs.size], _, _, H1, rfl, I1.kept (t' := s1.toks) hk, turn_enumT a (s1.heap.objs.size + 1) s1.heap.objs.size (Nat.succ_ne_self _) (Nat.ne_of_lt hlt) (Nat.ne_of_lt (Nat.lt_succ_of_lt hlt)), ⟨⟨.none, he⟩, hit⟩, fp, q⟩
end PyI
namespace Py
open PySem L2
section
variable {K : PySem.W.Frag} {H : Hp} {ι : List Addr}
theorem pair_ok {K H ι g} {T : Addr} {i : Nat} {d : D} {v : V} (s : SR_ K H ι g) (hT : H T = none) (r : Rep K H ι d v) : Ext K H (upd H T (.tup [.int (i : Nat), v])) ι ι ∧ SR_ K (upd H T (.tup [.int (i : Nat), v])) ι g ∧ Rep K (upd H T (.tup [.int (i : Nat), v])) ι (.tup [.int i, d]) (.ref T) :=
  ⟨Ext.new hT, s.new hT, .tup (.inl (.inl upd_same)) (.cons (.int _) (.cons (r.ext (Ext.new hT)) .nil))⟩
theorem sim_enL {r : Nat} {a : Addr} {n : Nat} (ha : ι[r]? = some a) : Sim K H ι (Ite K a) (itEn (itR r n)) := by
  intro i H1 g ι1 x s
  obtain ⟨s1, s2⟩ := sim_list (K := K) (H := H) (n := n) ha i H1 g ι1 x s
  refine ⟨fun h => s1 ?_, fun d h => ?_⟩
  · simp only [itEn, Option.map_eq_some_iff] at h
    obtain ⟨o, h1, h2⟩ := h
    cases o with
    | none => exact h1
    | some d => cases h2
  · simp only [itEn, Option.map_eq_some_iff] at h
    obtain ⟨o, h1, h2⟩ := h
    cases o with
    | none => obtain ⟨_, z, _⟩ := h2; cases z
    | some e =>
      obtain ⟨e', z, rfl⟩ := h2
      cases z
      obtain ⟨go, yl⟩ := s2 e h1
      refine ⟨go, fun y H' hy => ?_⟩
      obtain ⟨T, v, rfl, hT, rfl, hv⟩ := hy
      obtain ⟨xs, v', hq, hv'⟩ := go
      have := hv xs hq
      rw [hv'] at this
      cases this
      obtain ⟨_, _, r⟩ := yl v H1 ⟨rfl, hv⟩
      exact pair_ok s hT r
theorem sim_enT {a : Addr} {ds : List D} {vs : List V} (hq : SqT K H a vs) (hr : Reps K H ι ds vs) : Sim K H ι (PyI.IteT K a) (itEn (itL ds)) := by
  intro i H1 g ι1 x s
  obtain ⟨s1, s2⟩ := sim_tup (K := K) (H := H) hq hr i H1 g ι1 x s
  refine ⟨fun h => s1 ?_, fun d h => ?_⟩
  · simp only [itEn, Option.map_eq_some_iff] at h
    obtain ⟨o, h1, h2⟩ := h
    cases o with
    | none => exact h1
    | some d => cases h2
  · simp only [itEn, Option.map_eq_some_iff] at h
    obtain ⟨o, h1, h2⟩ := h
    cases o with
    | none => obtain ⟨_, z, _⟩ := h2; cases z
    | some e =>
      obtain ⟨e', z, rfl⟩ := h2
      cases z
      obtain ⟨go, yl⟩ := s2 e h1
      refine ⟨go, fun y H' hy => ?_⟩
      obtain ⟨T, v, rfl, hT, rfl, hv⟩ := hy
      obtain ⟨xs, v', hq, hv'⟩ := go
      have := hv xs hq
      rw [hv'] at this
      cases this
      obtain ⟨_, _, r⟩ := yl v H1 ⟨rfl, hv⟩
      exact pair_ok s hT r
end
section
variable {X : Cx} {W : WX} {e : Expr} {p pos tpos : Pos} {elts : List Expr} {kk : Nat} {m : M}
theorem i_enum (hm : X.mg "enumerate" = none) (h : EE X W e m) (hg : Gl X "enumerate" := by rfl) (hs : starEach [e] X.env = (false, eval e X.env) :: starEach [] X.env := by rfl) : II X W (.Tuple elts kk tpos) (.Call (.Name "enumerate" p) [e] [] pos) (iEnum m) := by
  refine ⟨fun pins s σ H R I ⟨ρ, g, ι, er, sr, p⟩ => ?_⟩
  refine (PyI.pi_enumA (tpos := tpos) (elts := elts) (kk := kk) hg hm (pa_cons h pa_nil hs) hs).run pins s σ H R I ⟨ρ, g, ι, er, sr, (Post.bind p).imp fun d g1 H1 ι1 _ x1 s1 p1 v r => ?_⟩
  cases d with
  | tup ds =>
    have p1 := p1.ok s1
    cases r with
    | @tup _ vs q ht hr => exact ⟨q, vs, rfl, .inr ⟨ht, p1 _ (sim_enT ht hr)⟩⟩
  | ref rr =>
    unfold iterOf at p1
    dsimp only at p1
    cases hl : lstOf (.ref rr) g1 with
    | none => rw [hl] at p1; exact p1.elim
    | some xs =>
      rw [hl] at p1
      have p1 := p1.ok s1
      obtain ⟨a', vs, e1, hq, hr⟩ := s1.list r hl
      subst e1
      cases r with
      | ref ha => exact ⟨a', vs, rfl, .inl ⟨hq, p1 _ (sim_enL ha)⟩⟩
  | str z => exact p1.elim
  | non => exact p1.elim
  | bl b => exact p1.elim
  | int i => exact p1.elim
  | adr a => exact p1.elim
end
end Py
end

section
set_option Elab.async false
set_option linter.all false
set_option maxRecDepth 100000
set_option maxHeartbeats 2000000
/-! An own exception whose __init__ says super().__init__(text) and stores its fields: made. -/
namespace PyX
open PySem PySem.W PySem.Calls PyProof.Rows PySem.HandSPX
/-- what the written part says of an exception's class at C; its __init__ stands at fI, written in the class at D; fs: its fields -/
structure HErr (K : Frag) (prog : Program) (C fI D : Addr) (fs : List Str) (params : Arguments) (body : List Stmt) (scope : Scope) : Prop where
  cls : ∃ nm q N bs bm sn sub ab col dd k0 k1 k2 k3 k5, K.lookup C = some (excClassObj nm q C N bs bm true sn sub ab col dd k0 k1 k2 k3 k5 "ValueError.__new__") ∧ refsVE bm = true
  sa : findIn K (.ref C) "__setattr__" = some (some (.builtin "object.__setattr__"))
  no : ∀ f ∈ fs, findIn K (.ref C) f = some none
  iC : findIn K (.ref C) "__init__" = some (some (.ref fI))
  tI : typeIn K (.ref fI) = some (.type "function")
  kC : keepIn K (.ref C) = true
  exC : subIn K (.ref C) (.type "BaseException") = some true
  vC : subIn K (.ref C) (.type "ValueError") = some true
  tyC : typeIn K (.ref C) = some (.type "type")
  fn : ∃ (oc oc2 oc3 : Value) (od od2 od3 : Option Addr) (doc pm : Value) (an : Option Addr) (cda cc : Addr) (ct : Value) (sl sl2 sl3 : Array (Option Value)) (q : Str) (vs : Array Value) (file : Str) (tf : Tok),
    K.lookup fI = some ⟨oc, od, .func (ksFn "__init__" q params body scope .none .none doc pm an (.ref cda) ct cc), sl⟩ ∧ codeIn K (.ref cda) q = true ∧
    K.lookup cda = some ⟨oc2, od2, .fields vs, sl2⟩ ∧ vs[2]? = some (.str file tf) ∧ ((prog.main.file : Str) == file) = true ∧ K.lookup cc = some ⟨oc3, od3, .cell (some (.ref D)), sl3⟩
  cD : ∃ cdD, clsIn K D = some cdD
  mD : mroIn K C (.ref D) = some true
  sup : ks_superIn K C D "__init__" = some (some (.builtin "ValueError.__init__"))
  op : nsIn K cStatics "thirdparty.any" = some none
  top : (prog.main.scope.names.lookup ("super" : Str)).isSome = false
section
variable {prog : Program} {w : World} {A : Around} {E : Value → Shared → Prop} {h : Heap} {g : Array GenState} {d : Drawn} {t : Nat} {os : OsState}
variable {nm q : Str} {C N : Addr} {bs bm : List Value} {hdct : Bool} {sn : List Str} {sub : List Value} {ab : Bool} {col : Option Bool} {dd : Option Addr} {k0 k1 k2 k3 k5 : Option Value}
theorem call_mw {u e t0 : Addr} {rest : List Value} {Q : Value → Shared → Prop}
    (hC : h.get? C = some (excClassObj nm q C N bs bm hdct sn sub ab col dd k0 k1 k2 k3 k5 "ValueError.__new__")) (he : h.get? e = some (excO C t0)) (hu : h.get? u = some (kxs_mw "ValueError.__init__" e)) (hrest : rest.length ≤ sizeLine)
    (hq : ∀ h' t1, (∀ b o, b ≠ e → h.get? b = some o → h'.get? b = some o) → h'.get? e = some (excO C t1) → Q .none ⟨h', g, d, t, os⟩) :
    wpAny (model prog w) A (call (.ref u) rest) Q E ⟨h, g, d, t, os⟩ := by
  have FB := PySem.F.excBase_ValueError
  have mw1 : (Value.type "method-wrapper" == Value.type "method" || Value.type "method-wrapper" == Value.type "builtin_function_or_method" || Value.type "method-wrapper" == Value.type "method-wrapper") = true := by decide
  refine wpAny_call (codeAny_of_tree ?_); show wpAny _ A.in1 (callAny (.ref u) ⟨rest, []⟩) _ _ _; simp only [callAny]
  refine wpAny_bind (wpAny_load hu ?_); simp only [kxs_mw, mw1, if_true]
  refine KFB.if_so (by decide) (wpAny_bind (check_bound_init FB.toExcCallFacts hC he rfl (wpAny_bind (wpAny_pure (wpAny_pure ?_)))))
  refine ⟨plainId_quiet FB.init.plain _, codeAny_builtin FB.initEntry ?_⟩
  exact exc_init_tree (cls := .ref C) (t0 := t0) (dv := none) (c2 := .none) (c3 := .none) (b4 := .bool false) he hrest fun h' k e' _ => hq h' _ k e'
end
/-! ### __init__ -/
/-- the positions of a store self.f = f -/
structure PosF where
  q1 : Pos
  q2 : Pos
  q3 : Pos
  q4 : Pos
/-- the text of __init__: super().__init__(msg), the stores -/
def heBody (msg : Str) (j : Nat) (p0 p1 p2 p3 p4 p5 : Pos) (fs : List (Str × PosF)) : List Stmt :=
  .Expr (.Call (.Attribute (.Call (.Name "super" p0) [] [] p1) "__init__" p2) [.Constant (.str msg) j p3] [] p4) p5 :: fs.map fun f => .Assign [.Attribute (.Name "self" f.2.q1) f.1 f.2.q2] (.Name f.1 f.2.q3) f.2.q4
/-- what __init__ leaves of a fresh exception at x -/
structure InitEnd (h h' : Heap) (x C dx t1 : Addr) (m : Str → Option Value) : Prop where
  keep : ∀ b o, b ≠ x → h.get? b = some o → h'.get? b = some o
  obj : h'.get? x = some { cls := .ref C, dict := some dx, data := .fields #[.ref t1, .none, .none, .none, .bool false, .none] }
  dbig : h.objs.size ≤ dx
  dne : dx ≠ x
  ns : h'.Ns1 dx m
section
variable {prog : Program} {w : World} {A : Around} {E : Value → Shared → Prop} {R : Result → Shared → Prop} {s : Shared} {K : Frag} {mg : Str → Option Value} {C fI D : Addr} {fs : List Str} {params : Arguments} {body : List Stmt} {scope : Scope}
theorem get_loc {M : Model} {A : Around} {E : Value → Shared → Prop} {s : Shared} {env : Env} {m : Str → Option Value} {x : Str} {pos : Pos} {v : Value} {Q : Value → Shared → Prop} (hn : s.heap.Ns env.locals m) (hv : m x = some v) (hl : env.kindOf x = some .local) (h : Q v s)
    (hk : env.scope.kind = .function) (hd : (x == ("__debug__" : Str)) = false) : wpAny M A (eval (.Name x pos) env) Q E s := wpAny_Name (wpAny_loadName_local hk hl hn hv h) hd
/-- the stores, from the second on: the dict stands -/
theorem stores_ok {env : Env} {m : Str → Option Value} {x dx t1 : Addr} {cd : ClassData} (hcd : clsIn K C = some cd) (hm : refsVE cd.mro = true) (hh : cd.hasDict = true) (sa : findIn K (.ref C) "__setattr__" = some (some (.builtin "object.__setattr__"))) (hk : env.scope.kind = .function) (hself : env.kindOf "self" = some .local) (hx0 : m "self" = some (.ref x)) {Q : Flow → Shared → Prop} :
    ∀ (fs : List (Str × PosF)) (h : Heap) (g : Array GenState) (d : Drawn) (t : Nat) (os : OsState) (m0 : Str → Option Value) (nl : List Str),
      (∀ f ∈ fs, findIn K (.ref C) f.1 = some none ∧ env.kindOf f.1 = some .local ∧ (f.1 == ("__debug__" : Str)) = false ∧ (m f.1).isSome = true) → h.Ns env.locals m → K.In h → env.locals ≠ dx → (∀ o, K.lookup dx = some o → False) →
      h.get? x = some { cls := .ref C, dict := some dx, data := .fields #[.ref t1, .none, .none, .none, .bool false, .none] } → x ≠ dx → h.Ns1 dx m0 → Within m0 nl → nl.length + fs.length ≤ 1000 →
      (∀ h' t', (∀ b o, b ≠ dx → h.get? b = some o → h'.get? b = some o) → h'.Ns1 dx (fun y => if (fs.map (·.1)).contains y then m y else m0 y) → Q .next ⟨h', g, d, t', os⟩) →
      wpAny (model prog w) A (execs (fs.map fun f => .Assign [.Attribute (.Name "self" f.2.q1) f.1 f.2.q2] (.Name f.1 f.2.q3) f.2.q4) env) Q E ⟨h, g, d, t, os⟩ := by
  intro fs
  induction fs with
  | nil =>
    intro h g d t os m0 nl _ hn X _ _ hx _ hns _ _ hq
    exact wpAny_execs_nil (hq h t (fun _ _ _ e => e) (by simpa using hns))
  | cons f fs ih =>
    intro h g d t os m0 nl hf hn X hL hK hx hxd hns hw hz hq
    obtain ⟨f1, f2, f3, f4⟩ := hf f (by simp)
    obtain ⟨v, hv⟩ := Option.isSome_iff_exists.mp f4
    refine wpAny_execs_cons (plainObj_wpAny_Assign_Attribute ?_)
    refine get_loc (s := ⟨h, g, d, t, os⟩) hn hv f2 (get_loc (s := ⟨h, g, d, t, os⟩) hn hx0 hself ?_ hk (by decide)) hk f3
    obtain ⟨oD, esD, epD, hoD, hdD, _⟩ := hns.count hw
    refine set_plain X (ox := { cls := .ref C, dict := some dx, data := .fields #[.ref t1, .none, .none, .none, .bool false, .none] }) (od := some oD) ⟨hx, rfl, rfl, hoD⟩ sa ?_
    refine PySem.OEX.osa_old X hx hns hw (by simp at hz; omega) hcd hm hh f1 fun h' t' k hn' => ?_
    have X' : K.In h' := fun a o e => k a o (fun z => hK o (by rw [← z]; exact e)) (X a o e)
    refine ih h' g d t' os _ (f.1 :: nl) (fun f' hf' => hf f' (by simp [hf'])) ?_ X' hL hK (k _ _ hxd hx) hxd hn' (Within.cons f.1 v hw) (by simp at hz ⊢; omega) ?_
    · exact hn.at fun o e => k _ _ hL e
    · intro h'' t'' k' hn''
      refine hq h'' t'' (fun b o hb e => k' b o hb (k b o hb e)) ?_
      have : (fun y => if (((f :: fs).map (·.1)).contains y) = true then m y else m0 y) = (fun y => if ((fs.map (·.1)).contains y) = true then m y else if y = f.1 then some v else m0 y) := by
        funext y
        by_cases h1 : (fs.map (·.1)).contains y = true
        · have h2 : (((f :: fs).map (·.1)).contains y) = true := by simp at h1 ⊢; exact .inr h1
          rw [if_pos h1, if_pos h2]
        · by_cases h3 : y = f.1
          · subst h3
            have h2 : (((f :: fs).map (·.1)).contains f.1) = true := by simp
            rw [if_pos h2, if_neg h1, if_pos rfl, hv]
          · have h2 : ¬ (((f :: fs).map (·.1)).contains y) = true := by simp at h1 ⊢; exact ⟨h3, h1⟩
            rw [if_neg h2, if_neg h1, if_neg h3]
      rw [this]
      exact hn''
abbrev heScope (nms : List (Str × NameKind)) (mr : List (Str × Const)) : Scope := { kind := .function, names := nms, isGenerator := false, isCoroutine := false, more := mr }
theorem herr_init {cda cc : Addr} {q : Str} {doc pm ct oc oc2 oc3 : Value} {an od od2 od3 : Option Addr} {sl sl2 sl3 : Array (Option Value)} {vf : Array Value} {file : Str} {tf : Tok} {msg : Str} {j : Nat} {p0 p1 p2 p3 p4 p5 : Pos} {fp : List (Str × PosF)} {f : Str × PosF} {cdD : ClassData} {ar : Arg} {nms : List (Str × NameKind)} {mr : List (Str × Const)}
    (T : HErr K prog C fI D fs params (heBody msg j p0 p1 p2 p3 p4 p5 (f :: fp)) (heScope nms mr))
    (l1 : K.lookup fI = some ⟨oc, od, .func (ksFn "__init__" q params (heBody msg j p0 p1 p2 p3 p4 p5 (f :: fp)) (heScope nms mr) .none .none doc pm an (.ref cda) ct cc), sl⟩) (l2 : codeIn K (.ref cda) q = true)
    (l3 : K.lookup cda = some ⟨oc2, od2, .fields vf, sl2⟩) (l4 : vf[2]? = some (.str file tf)) (l5 : ((prog.main.file : Str) == file) = true) (l6 : K.lookup cc = some ⟨oc3, od3, .cell (some (.ref D)), sl3⟩) (l7 : clsIn K D = some cdD)
    {mg mb : Str → Option Value} {x t0 : Addr} {args : Args} {binds : List (Str × Value)} (X : K.In s.heap) (hlim : s.heap.NoLimit) (hglob : s.heap.Ns mainGlobals mg) (hmg : mg "super" = none) (hblt : s.heap.Ns builtinsNs mb) (hmb : mb "super" = some (.type "super"))
    (hx : s.heap.get? x = some (excO C t0)) (hnx : K.lookup x = none) (hroom : A.depth < recursionLimit) (hbind : BindsTo s (ksFn "__init__" q params (heBody msg j p0 p1 p2 p3 p4 p5 (f :: fp)) (heScope nms mr) .none .none doc pm an (.ref cda) ct cc) args binds)
    (har : (params.posonlyargs ++ params.args).head? = some ar) (hself : ar.arg = "self") (hsv : binds.reverse.lookup ("self" : Str) = some (Value.ref x)) (hcell : ∀ x ∈ nms, x.2 ≠ .cell) (hloc : ∀ y ∈ binds, nms.lookup y.1 = some .local)
    (hks : nms.lookup ("super" : Str) = some .globalImplicit) (hkc : nms.lookup ("__class__" : Str) = some .free) (hkself : nms.lookup ("self" : Str) = some .local)
    (hf : ∀ z ∈ f :: fp, findIn K (.ref C) z.1 = some none ∧ nms.lookup z.1 = some .local ∧ (z.1 == ("__debug__" : Str)) = false ∧ (binds.reverse.lookup z.1).isSome = true) (hfl : (f :: fp).length ≤ 100)
    (he : ∀ env : Env, ∃ pl : Sem Bool, eval (.Call (.Attribute (.Call (.Name "super" p0) [] [] p1) "__init__" p2) [.Constant (.str msg) j p3] [] p4) env = (do
      let ov ← attributeBase (.Call (.Name "super" p0) [] [] p1) "__init__" env (eval (.Call (.Name "super" p0) [] [] p1) env)
      standAt p2.atName
      let (f, first) ← holding [ov] (getMethod ov "__init__" pl)
      callWith p4 f first (backTo p4 (starEach [.Constant (.str msg) j p3] env)) []))
    (hq : ∀ h' tk dx t1, InitEnd s.heap h' x C dx t1 (fun y => if ((f :: fp).map (·.1)).contains y then binds.reverse.lookup y else none) → R (.ok (.ret .none)) { s with heap := h', toks := tk }) :
    codeAny (model prog w) A (.call (.ref fI) args) R s := by
  obtain ⟨nm, qn, N, bs, bm, sn, sub, ab, col, dd, k0, k1, k2, k3, k5, hC, hbm⟩ := T.cls
  have hcl : clsIn K C = some { name := nm, bases := bs, mro := .ref C :: bm, ns := N, qualname := qn, hasDict := true, slotNames := sn, subclasses := sub, abstract := ab, collection := col, hasDel := false } := by unfold clsIn; rw [hC] <;> rfl
  refine ks_codeAny_call_defAt (fd := ksFn "__init__" q params (heBody msg j p0 p1 p2 p3 p4 p5 (f :: fp)) (heScope nms mr) .none .none doc pm an (.ref cda) ct cc) (body := heBody msg j p0 p1 p2 p3 p4 p5 (f :: fp)) (binds := binds) hroom (X _ _ l1) rfl hlim (codeRec_of X l2) rfl hbind hcell hloc (fun h₁ hns hk₁ => ?_)
  have X1 : K.In h₁ := X.keeps hk₁
  have hx1 := hk₁ _ _ hx
  have hxL : s.heap.objs.size ≠ x := Nat.ne_of_gt (Heap.lt_size hx)
  obtain ⟨oD, hD1, hD2⟩ : ∃ oD, h₁.get? D = some oD ∧ oD.data = .cls cdD := by
    have l7' := l7
    unfold clsIn at l7'
    split at l7'
    · rename_i c d cd' sl' ho
      cases l7'
      exact ⟨_, X1 _ _ ho, rfl⟩
    · cases l7'
  have IA : InstAt h₁ x (excO C t0) C none := ⟨hx1, rfl, rfl, trivial⟩
  obtain ⟨pl, he'⟩ := he (callEnv (ksFn "__init__" q params (heBody msg j p0 p1 p2 p3 p4 p5 (f :: fp)) (heScope nms mr) .none .none doc pm an (.ref cda) ct cc) s.heap.objs.size fI)
  refine ks_wpAt_execs_cons (ks_wpAt_Expr_any (ks_wpAt_MethodCall (pl := pl) (ks_wpAt_super_base hks hkc (by decide) rfl (X1 _ _ l1) rfl har rfl (X1 _ _ l3) rfl l4 l5 T.top ?_) he'))
  refine ks_loadName_global rfl hks (loadGlobal_builtin (hglob.at fun o e => hk₁ _ _ e) hmg (hblt.at fun o e => hk₁ _ _ e) hmb ⟨rfl, ?_⟩)
  refine wpAny_loadName_free rfl hkc rfl ⟨_, X1 _ _ l6, rfl⟩ ?_
  rw [hself]
  refine wpAny_loadName_local rfl hkself hns hsv ?_
  refine ks_wpAny_isType_cls hD1 hD2 ⟨rfl, ?_⟩
  refine ks_wpAny_call_super hD1 hD2 hx1 rfl (fun c e => by cases e) (looks_mroIn X1 T.mD) (fun h2 e2 k2 => ?_)
  have X2 : K.In h2 := X1.keeps k2
  have hsup : ((Value.ref C :: bm).dropWhile (· != .ref D)).drop 1 = ((Value.ref C :: bm).dropWhile (· != .ref D)).drop 1 := rfl
  have hal : alongIn K "__init__" (((Value.ref C :: bm).dropWhile (· != .ref D)).drop 1) = some (some (.builtin "ValueError.__init__")) := by
    have := T.sup
    unfold ks_superIn at this
    rw [hcl] at this
    exact this
  have I2 : InstAt h2 x (excO C t0) C none := ⟨k2 _ _ hx1, rfl, rfl, trivial⟩
  have hxC : x ≠ C := fun z => by rw [z, hC] at hnx; cases hnx
  refine kxs_getMethod kxs_ValueError e2 (looks_opaque X2 T.op) (l₀ := .ref C :: bm) (fun A Q E s k q => wpAny_bind ((looks_clsIn X2 hcl) A _ E s k (wpAny_pure q))) rfl X2 hal (I2.type.andThen (looks_subIn X2 T.vC)) hxC (by decide) ?_
  have k3 : ∀ b o, h2.get? b = some o → (h2.push (kxs_mw "ValueError.__init__" x)).get? b = some o := fun b o e => Heap.get?_push_of_some _ e
  have X3 := X2.keeps k3
  refine kxs_callWith (i := "ValueError.__init__") (x := x) rfl (evalArgs_plain (spliced_cons (wpAny_Constant_str (k := j) (pos := p3) (spliced_nil ⟨?_, ?_⟩))))
  · show (h2.push (kxs_mw "ValueError.__init__" x)).get? h2.objs.size = _
    exact Heap.get?_push_at rfl rfl
  have hb : (Value.type "X" == Value.type "X") = true := rfl
  refine call_mw (X3 _ _ hC) (k3 _ _ (k2 _ _ hx1)) (Heap.get?_push_at rfl rfl) (by show 1 ≤ sizeLine; rw [sizeLine_eq]; omega) fun h4 t1 k4 e4 => ?_
  have old4 : ∀ b o, b ≠ x → h₁.get? b = some o → h4.get? b = some o := fun b o hb e => k4 b o hb (k3 b o (k2 b o e))
  have X4 : K.In h4 := fun a o e => k4 a o (fun z => by rw [z, hnx] at e; cases e) (X3 a o e)
  have hns4 : h4.Ns s.heap.objs.size (fun x => binds.reverse.lookup x) := hns.at fun o e => old4 _ _ hxL e
  obtain ⟨f1, f2, f3, f4⟩ := hf f (by simp)
  obtain ⟨v, hv⟩ := Option.isSome_iff_exists.mp f4
  refine wpAt_of_wpAny ?_
  show wpAny _ _ (execs (.Assign [.Attribute (.Name "self" f.2.q1) f.1 f.2.q2] (.Name f.1 f.2.q3) f.2.q4 :: fp.map fun f => .Assign [.Attribute (.Name "self" f.2.q1) f.1 f.2.q2] (.Name f.1 f.2.q3) f.2.q4) _) _ _ _
  refine wpAny_execs_cons (plainObj_wpAny_Assign_Attribute ?_)
  refine get_loc hns4 hv f2 (get_loc hns4 hsv hkself ?_ rfl (by decide)) rfl f3
  refine set_plain X4 (ox := excO C t1) (od := none) ⟨e4, rfl, rfl, trivial⟩ T.sa ?_
  refine exc_osa X4 e4 hcl (show refsVE (.ref C :: bm) = true from hbm) rfl f1 fun h5 t5 dx k5 dn dne hx5 hn5 => ?_
  have z4 : s.heap.objs.size < h4.objs.size := hns4.lt
  have dn : h4.objs.size ≤ dx := dn
  have X5 : K.In h5 := fun a o e => k5 a o (fun z => by rw [z, hnx] at e; cases e) (X4 a o e)
  have hKd : ∀ o, K.lookup dx = some o → False := fun o e => Nat.lt_irrefl _ (Nat.lt_of_lt_of_le (Heap.lt_size (X4 _ _ e)) dn)
  refine stores_ok (env := callEnv (ksFn "__init__" q params (heBody msg j p0 p1 p2 p3 p4 p5 (f :: fp)) (heScope nms mr) .none .none doc pm an (.ref cda) ct cc) s.heap.objs.size fI) (C := C) (x := x) (dx := dx) (t1 := t1) (m := fun x => binds.reverse.lookup x) hcl (show refsVE (.ref C :: bm) = true from hbm) rfl T.sa rfl hkself hsv fp h5 _ _ t5 _ _ [f.1] (fun z hz => hf z (by simp [hz])) (hns4.at fun o e => k5 _ _ hxL e) X5 (by show s.heap.objs.size ≠ dx; omega) hKd hx5 (Ne.symm dne) hn5 ?_ (by simp at hfl ⊢; omega) ?_
  · intro y hy
    by_cases e : y = f.1
    · rw [e]; simp
    · exact absurd (if_neg e) hy
  · intro h6 t6 k6 hn6
    refine hq h6 t6 dx t1 ⟨fun b o hb e => ?_, k6 _ _ (Ne.symm dne) hx5, by omega, dne, ?_⟩
    · have ne : b ≠ dx := Nat.ne_of_lt (Nat.lt_of_lt_of_le (Nat.lt_trans (Heap.lt_size e) z4) dn)
      exact k6 b o ne (k5 b o hb (old4 b o hb (hk₁ b o e)))
    · have e : (fun y => if (fp.map (·.1)).contains y = true then binds.reverse.lookup y else if y = f.1 then some v else none) = (fun y => if ((f :: fp).map (·.1)).contains y = true then binds.reverse.lookup y else none) := by
        funext y
        by_cases h1 : (fp.map (·.1)).contains y = true
        · have h2 : ((f :: fp).map (·.1)).contains y = true := by simp at h1 ⊢; exact .inr h1
          rw [if_pos h1, if_pos h2]
        · by_cases h3 : y = f.1
          · have h2 : ((f :: fp).map (·.1)).contains y = true := by rw [h3]; simp
            rw [if_neg h1, if_pos h2, if_pos h3, h3, hv]
          · have h2 : ¬ ((f :: fp).map (·.1)).contains y = true := by simp at h1 ⊢; exact ⟨h3, h1⟩
            rw [if_neg h1, if_neg h2, if_neg h3]
      rw [← e]
      exact hn6
end
end PyX
end

section
set_option Elab.async false
set_option linter.all false
set_option maxRecDepth 100000
set_option maxHeartbeats 2000000
/-! Own exceptions: made, raised, caught, looked at. -/
namespace PyX
open PySem PySem.W PySem.Calls PyProof.Rows PySem.HandSPX
/-- a made exception: at e, its dict at d -/
structure OwnMade (h h' : Heap) (e C d : Addr) (m : Str → Option Value) : Prop where
  keep : ∀ b o, h.get? b = some o → h'.get? b = some o
  new : h.objs.size ≤ e
  obj : ∃ oe vs, h'.get? e = some oe ∧ oe.cls = .ref C ∧ oe.dict = some d ∧ oe.data = .fields vs ∧ vs[1]? = some .none
  dbig : h.objs.size ≤ d
  dne : d ≠ e
  ns : h'.Ns1 d m
section
variable {prog : Program} {w : World} {A : Around} {R : Result → Shared → Prop} {s : Shared} {K : Frag} {C fI D : Addr} {fs : List Str} {params : Arguments} {body : List Stmt} {scope : Scope}
theorem herr_made (T : HErr K prog C fI D fs params body scope) {us : List Value} {m : Str → Option Value} (X : K.In s.heap) (hlim : s.heap.NoLimit) (hus : us.length ≤ 100) (hroom : A.depth + 1 < recursionLimit)
    (init : ∀ (A : Around) (R : Result → Shared → Prop) (s' : Shared) (x t0 : Addr), (∀ b o, s.heap.get? b = some o → s'.heap.get? b = some o) → s'.heap.get? x = some (excO C t0) → K.lookup x = none → A.depth < recursionLimit →
      (∀ h' tk dx t1, InitEnd s'.heap h' x C dx t1 m → R (.ok (.ret .none)) { s' with heap := h', toks := tk }) → codeAny (model prog w) A (.call (.ref fI) ⟨.ref x :: us, []⟩) R s')
    (hq : ∀ h' tk e d, OwnMade s.heap h' e C d m → R (.ok (.ret (.ref e))) { s with heap := h', toks := tk }) :
    codeAny (model prog w) A (.call (.ref C) ⟨us, []⟩) R s := by
  obtain ⟨nm, q, N, bs, bm, sn, sub, ab, col, dd, k0, k1, k2, k3, k5, hC, hbm⟩ := T.cls
  obtain ⟨hp, g, dr, tk, os⟩ := s
  have k : ∀ b o, hp.get? b = some o → ((hp.push (kdv_tup us)).push (excO C hp.objs.size)).get? b = some o := fun b o e => Heap.get?_push_of_some _ (Heap.get?_push_of_some _ e)
  have hget : ((hp.push (kdv_tup us)).push (excO C hp.objs.size)).get? (hp.objs.size + 1) = some (excO C hp.objs.size) := by heap_get
  have hnx : K.lookup (hp.objs.size + 1) = none := by
    cases e : K.lookup (hp.objs.size + 1) with
    | none => rfl
    | some o => exact absurd (Nat.lt_of_succ_lt (Heap.lt_size (show hp.get? (hp.objs.size + 1) = some o from X _ _ e))) (Nat.lt_irrefl _)
  have hsz : us.length ≤ sizeLine := by rw [sizeLine_eq]; omega
  refine call_own F.excBase_ValueError (fun X => refsVE_contains X bm hbm) (X _ _ hC) (looks_findIn X T.iC) (fun self => bind_fn X self T.tI) hsz ?_
  refine init _ _ ⟨(hp.push (kdv_tup us)).push (excO C hp.objs.size), g, dr, tk, os⟩ (hp.objs.size + 1) hp.objs.size k hget hnx (by show A.depth + 1 < recursionLimit; exact hroom) fun h' tk' dx t1 ⟨k', hx, dn, dne, hns⟩ => ?_
  have old : ∀ b o, hp.get? b = some o → h'.get? b = some o := fun b o e => k' b o (Nat.ne_of_lt (Nat.lt_succ_of_lt (Heap.lt_size e))) (k b o e)
  have z : hp.objs.size + 1 + 1 ≤ dx := by
    first
      | (simpa only [Heap.size_push] using dn)
      | exact dn
  exact ⟨rfl, hq h' tk' (hp.objs.size + 1) dx ⟨old, Nat.le_succ _, ⟨_, _, hx, rfl, rfl, rfl, rfl⟩, Nat.le_trans (Nat.le_trans (Nat.le_succ _) (Nat.le_succ _)) z, dne, hns⟩⟩
end
/-- the parameters of __init__ -/
def heArgs (p0 : Pos) (fs : List (Str × Pos)) : Arguments := { posonlyargs := [], args := { arg := "self", annotation := none, pos := p0 } :: fs.map fun f => { arg := f.1, annotation := none, pos := f.2 }, vararg := none, kwonlyargs := [], kw_defaults := [], kwarg := none, defaults := [] }
/-- the class x of the module: an exception of its own, with these fields -/
structure ErrC (P : Program) (w : World) (K : Frag) (mg : Str → Option Value) (x : Str) (fs : List Str) : Prop where
  ex : ∃ C : Addr, mg x = some (.ref C) ∧ keepIn K (.ref C) = true ∧ subIn K (.ref C) (.type "BaseException") = some true ∧ typeIn K (.ref C) = some (.type "type") ∧
    ∀ (A : Around) (R : Result → Shared → Prop) (s : Shared) (mb : Str → Option Value) (us : List Value), us.length = fs.length → K.In s.heap → s.heap.NoLimit → s.heap.Ns mainGlobals mg → s.heap.Ns builtinsNs mb → mb "super" = some (.type "super") → A.depth + 1 < recursionLimit →
      (∀ h' tk e d m, (∀ vs, L2.Vals vs us → ∀ f, L2.RelO ((fs.zip vs).lookup f) (m f)) → OwnMade s.heap h' e C d m → R (.ok (.ret (.ref e))) { s with heap := h', toks := tk }) → codeAny (model P w) A (.call (.ref C) ⟨us, []⟩) R s
section
variable {P : Program} {w : World} {K : Frag} {mg : Str → Option Value} {C fI D : Addr} {msg : Str} {j : Nat} {p0 p1 p2 p3 p4 p5 : Pos} {ps : Arguments} {nms : List (Str × NameKind)} {mr : List (Str × Const)} {x : Str}
/-- what the text of __init__ says by itself -/
structure HeTxt (fs : List Str) (msg : Str) (j : Nat) (p0 p1 p2 p3 p4 : Pos) (ps : Arguments) (nms : List (Str × NameKind)) : Prop where
  ar : ∃ ar, (ps.posonlyargs ++ ps.args).head? = some ar ∧ ar.arg = "self"
  cell : ∀ x ∈ nms, x.2 ≠ .cell
  sup : nms.lookup ("super" : Str) = some .globalImplicit
  cls : nms.lookup ("__class__" : Str) = some .free
  loc : ∀ f ∈ ("self" : Str) :: fs, nms.lookup f = some .local
  dbg : ∀ f ∈ fs, (f == ("__debug__" : Str)) = false
  nd : (("self" : Str) :: fs).Nodup
  len : fs.length ≤ 99
  ev : ∀ env : PySem.Env, ∃ pl : Sem Bool, eval (.Call (.Attribute (.Call (.Name "super" p0) [] [] p1) "__init__" p2) [.Constant (.str msg) j p3] [] p4) env = (do
      let ov ← attributeBase (.Call (.Name "super" p0) [] [] p1) "__init__" env (eval (.Call (.Name "super" p0) [] [] p1) env)
      standAt p2.atName
      let (f, first) ← holding [ov] (getMethod ov "__init__" pl)
      callWith p4 f first (backTo p4 (starEach [.Constant (.str msg) j p3] env)) [])
theorem lookup_app (k : Str) : ∀ (l r : List (Str × Value)), k ∉ l.map (·.1) → (l ++ r).lookup k = r.lookup k
  | [], _, _ => rfl
  | (a, v) :: l, r, h => by
    simp at h
    have e : (k == a) = false := by simpa using h.1
    simp only [List.cons_append, List.lookup, e]
    exact lookup_app k l r (by simpa using h.2)
theorem lookup_app' (k : Str) (v : Value) : ∀ (l r : List (Str × Value)), l.lookup k = some v → (l ++ r).lookup k = some v
  | [], _, h => by cases h
  | (a, u) :: l, r, h => by
    simp only [List.cons_append, List.lookup] at h ⊢
    cases e : (k == a) with
    | true => rw [e] at h; exact h
    | false => rw [e] at h; exact lookup_app' k v l r h
theorem lookup_rev (k : Str) : ∀ (l : List (Str × Value)), (l.map (·.1)).Nodup → l.reverse.lookup k = l.lookup k
  | [], _ => rfl
  | (a, v) :: l, h => by
    simp only [List.map_cons, List.nodup_cons] at h
    rw [List.reverse_cons]
    by_cases e : k = a
    · subst e
      rw [lookup_app _ _ _ (by simpa using h.1)]
      simp [List.lookup]
    · have e' : (k == a) = false := by simpa using e
      simp only [List.lookup, e']
      cases q : l.lookup k with
      | some u => exact lookup_app' k u _ _ ((lookup_rev k l h.2).trans q)
      | none =>
        have z := (lookup_rev k l h.2).trans q
        have : ∀ (m : List (Str × Value)), m.lookup k = none → (m ++ [(a, v)]).lookup k = none := by
          intro m
          induction m with
          | nil => intro _; simp [List.lookup, e']
          | cons p m ih =>
            obtain ⟨b, u⟩ := p
            intro hm
            simp only [List.cons_append, List.lookup] at hm ⊢
            cases e2 : (k == b) with
            | true => rw [e2] at hm; cases hm
            | false => rw [e2] at hm; exact ih hm
        exact this _ z
theorem zip_keys : ∀ (fs : List Str) (us : List Value), us.length = fs.length → (fs.zip us).map (·.1) = fs
  | [], [], _ => rfl
  | f :: fs, u :: us, h => by simp [zip_keys fs us (by simpa using h)]
theorem zip_some (k : Str) : ∀ (fs : List Str) (us : List Value), us.length = fs.length → k ∈ fs → ((fs.zip us).lookup k).isSome = true
  | f :: fs, u :: us, h, hk => by
    simp only [List.zip_cons_cons, List.lookup]
    cases e : (k == f) with
    | true => rfl
    | false =>
      have : k ≠ f := by simpa using e
      rcases List.mem_cons.mp hk with z | z
      · exact absurd z this
      · exact zip_some k fs us (by simpa using h) z
theorem zip_rel (k : Str) : ∀ (fs : List Str) (vs : List L2.V) (us : List Value), us.length = fs.length → L2.Vals vs us → L2.RelO ((fs.zip vs).lookup k) ((fs.zip us).lookup k)
  | [], _, _, _, _ => trivial
  | f :: fs, _, u :: us, h, .cons r t => by
    simp only [List.zip_cons_cons, List.lookup]
    cases e : (k == f) with
    | true => exact r
    | false => exact zip_rel k fs _ us (by simpa using h) t
theorem zip_none (k : Str) : ∀ (fs : List Str) (us : List Value), k ∉ fs → (fs.zip us).lookup k = none
  | [], _, _ => rfl
  | f :: fs, [], _ => rfl
  | f :: fs, u :: us, h => by
    simp at h
    have e : (k == f) = false := by simpa using h.1
    simp only [List.zip_cons_cons, List.lookup, e]
    exact zip_none k fs us h.2
theorem errC_of {f : Str × PosF} {fp : List (Str × PosF)} (T : HErr K P C fI D ((f :: fp).map (·.1)) ps (heBody msg j p0 p1 p2 p3 p4 p5 (f :: fp)) (heScope nms mr)) (X : HeTxt ((f :: fp).map (·.1)) msg j p0 p1 p2 p3 p4 ps nms) (hx : mg x = some (.ref C)) (hsup : mg "super" = none)
    (hb : ∀ (s : Shared) (q : Str) (doc pm ct : Value) (an : Option Addr) (cda cc : Addr) (v : Value) (us : List Value), us.length = ((f :: fp).map (·.1)).length →
      BindsTo s (ksFn "__init__" q ps (heBody msg j p0 p1 p2 p3 p4 p5 (f :: fp)) (heScope nms mr) .none .none doc pm an (.ref cda) ct cc) ⟨v :: us, []⟩ (((Str.ofString "self"), v) :: ((f :: fp).map (·.1)).zip us)) : ErrC P w K mg x ((f :: fp).map (·.1)) := by
  refine ⟨C, hx, T.kC, T.exC, T.tyC, fun A R s mb us hus XI hlim hg hbn hmb hroom hq => ?_⟩
  obtain ⟨oc, oc2, oc3, od, od2, od3, doc, pm, an, cda, cc, ct, sl, sl2, sl3, q, vf, file, tf, l1, l2, l3, l4, l5, l6⟩ := T.fn
  obtain ⟨cdD, l7⟩ := T.cD
  obtain ⟨ar, a1, a2⟩ := X.ar
  have nd2 := List.nodup_cons.mp X.nd
  refine herr_made T (m := fun y => if ((f :: fp).map (·.1)).contains y then (((f :: fp).map (·.1)).zip us).lookup y else none) XI hlim (by rw [hus]; have := X.len; omega) hroom (fun A R s' x t0 k hx0 hnx hr hq' => ?_) fun h' tk e d M => ?_
  · have keys : ((((Str.ofString "self"), Value.ref x) :: ((f :: fp).map (·.1)).zip us).map (·.1)) = ("self" : Str) :: (f :: fp).map (·.1) := by rw [List.map_cons, zip_keys _ _ hus]
    have rv : ∀ y, (((Str.ofString "self"), Value.ref x) :: ((f :: fp).map (·.1)).zip us).reverse.lookup y = (((Str.ofString "self"), Value.ref x) :: ((f :: fp).map (·.1)).zip us).lookup y := fun y => lookup_rev y _ (by rw [keys]; exact X.nd)
    have ns : ∀ y, y ∈ (f :: fp).map (·.1) → (((Str.ofString "self"), Value.ref x) :: ((f :: fp).map (·.1)).zip us).lookup y = (((f :: fp).map (·.1)).zip us).lookup y := fun y hy => by
      have : (y == ("self" : Str)) = false := by
        have : y ≠ "self" := fun z => nd2.1 (z ▸ hy)
        simpa using this
      simp only [List.lookup, this]
    refine herr_init T l1 l2 l3 l4 l5 l6 l7 (XI.keeps k) (hlim.keeps k) (hg.at fun o e => k _ _ e) hsup (hbn.at fun o e => k _ _ e) hmb hx0 hnx hr (hb s' q doc pm ct an cda cc _ us hus) a1 a2 ?_ X.cell ?_ X.sup X.cls (X.loc _ List.mem_cons_self) ?_ (by have := X.len; simp at this ⊢; omega) X.ev fun h' tk dx t1 E => ?_
    · rw [rv]
      simp [List.lookup]
    · intro y hy
      have : y.1 ∈ ((((Str.ofString "self"), Value.ref x) :: ((f :: fp).map (·.1)).zip us).map (·.1)) := List.mem_map.mpr ⟨y, hy, rfl⟩
      rw [keys] at this
      exact X.loc _ this
    · intro z hz
      have hz' : z.1 ∈ (f :: fp).map (·.1) := List.mem_map.mpr ⟨z, hz, rfl⟩
      refine ⟨T.no _ hz', X.loc _ (List.mem_cons_of_mem _ hz'), X.dbg _ hz', ?_⟩
      rw [rv, ns _ hz']
      exact zip_some _ _ _ hus hz'
    · refine hq' h' tk dx t1 ⟨E.keep, E.obj, E.dbig, E.dne, ?_⟩
      have e : (fun y => if ((f :: fp).map (·.1)).contains y = true then (((Str.ofString "self"), Value.ref x) :: ((f :: fp).map (·.1)).zip us).reverse.lookup y else none) = fun y => if ((f :: fp).map (·.1)).contains y = true then (((f :: fp).map (·.1)).zip us).lookup y else none := by
        funext y
        by_cases h1 : ((f :: fp).map (·.1)).contains y = true
        · rw [if_pos h1, if_pos h1, rv, ns y (by simpa using h1)]
        · rw [if_neg h1, if_neg h1]
      rw [← e]
      exact E.ns
  · refine hq h' tk e d _ (fun vs hv y => ?_) M
    by_cases h1 : ((f :: fp).map (·.1)).contains y = true
    · rw [if_pos h1]
      exact zip_rel y _ vs us hus hv
    · rw [if_neg h1]
      have z := zip_rel y _ vs us hus hv
      rw [zip_none y _ us (by simpa using h1)] at z
      exact z
end
end PyX
end

section
set_option Elab.async false
set_option linter.all false
set_option maxRecDepth 100000
set_option maxHeartbeats 2000000
set_option autoImplicit false
/-! Soundness: raise, try, the exception in hand. -/
namespace Py
open PySem L2
theorem boot_super : bootBuiltins "super" = some (.type "super") := by decide +kernel
section
variable {X : Cx} {W : WX}
/-- an own exception, made -/
def tErr (K : PySem.W.Frag) (C : Addr) (fs : List Str) (t : TA) : L2.St → Hp → XK → Prop := fun σ H Q => t σ H fun vs H1 => vs.length = fs.length ∧ ∀ d, H1 d = none → Q (.ref C) (some d) (upd H1 d (.xd (fs.zip vs)))
theorem pmk_err {x : Str} {fs : List Str} {e : Expr} {es : List Expr} {t : TA} {p pos : Pos} {k : Nat} (E : PyX.ErrC X.prog X.w X.K X.mg x fs) (hr : Room k X.A) (ha : PA X (e :: es) t) (hg : Gl X x := by rfl) (hdb : (x == ("__debug__" : Str)) = false := by decide)
    (he : starEach (e :: es) X.env = (false, eval e X.env) :: starEach es X.env := by rfl) (hpl : (backTo pos (starEach es X.env)).any (·.1) = false := by rfl) :
    ∃ C, X.mg x = some (.ref C) ∧ PMk X (.Call (.Name x p) (e :: es) [] pos) (tErr X.K C fs t) := by
  obtain ⟨C, hm, kC, exC, tyC, made⟩ := E.ex
  refine ⟨C, hm, ?_⟩
  intro pins s σ H Q I h
  refine wpAny_Call_Name_kw (ld_glob I hg hm ?_ hdb)
  refine PySem.W.callWith_K (h₀ := X.base) I.ok.mod.kin kC (thn (ha.run pos pins s σ H _ I h) fun us s1 hh => ?_) he hpl
  obtain ⟨vs, H1, I1, r1, hl, q1⟩ := hh
  refine ⟨I1.kIn, ?_⟩
  show wpAny _ _ (call (.ref C) us) _ _ _
  have hlim := I1.nolimit
  obtain ⟨mb, hb1, hb2⟩ := I1.mod.blt
  have hus : us.length = fs.length := by rw [← r1.length]; exact hl
  have hglob := I1.mod.glob.keeps I1.bk
  have hblt := hb1.keeps I1.bk
  have hsup : mb "super" = some (.type "super") := (hb2 "super" (by decide)).trans boot_super
  obtain ⟨hp, g, dr, tk, os⟩ := s1
  refine wpAny_call (made _ _ ⟨hp, g, dr, tk, os⟩ mb us hus I1.kIn hlim hglob hblt hsup (by have := hr.dp; omega) fun h' tk' e d m hrel M => ?_)
  show MkP X pins σ Q (.ref e) ⟨h', g, dr, tk', os⟩
  obtain ⟨oe, fv, hoe, hc, hd, hdat, h1⟩ := M.obj
  have hns := M.ns
  obtain ⟨G', g1, g2⟩ := restrict h' fun b => decide (b ≠ e)
  have gk : ∀ b, b ≠ e → G'.get? b = h'.get? b := fun b hb => g1 b (decide_eq_true hb)
  have ge : G'.get? e = none := g2 e (by simp)
  have old : ∀ b o, hp.get? b = some o → G'.get? b = some o := fun b o q => (gk b (Nat.ne_of_lt (Nat.lt_of_lt_of_le (Heap.lt_size q) M.new))).trans (M.keep b o q)
  have ob : ObjOk X.prog X.w (upd H1 d (.xd (fs.zip vs))) G' d (.xd (fs.zip vs)) := ⟨_, hns.at (fun o q => (gk d M.dne).trans q), fun f => hrel vs r1 f⟩
  have J : Inv X pins σ (upd H1 d (.xd (fs.zip vs))) ⟨G', g, dr, tk', os⟩ := I1.laid (t' := tk') old M.dbig ob
  refine ⟨e, oe, fv, ⟨G', g, dr, tk', os⟩, _, .ref C, some d, rfl, J, fun b o q => ?_, ge, hoe, ⟨hc, hd⟩, hdat, h1, ?_, rfl, I1.bare, raises_own exC tyC, q1 d (I1.hok.fresh M.dbig)⟩
  · by_cases hb : b = e
    · have q' : G'.get? b = some o := q
      rw [hb, ge] at q'; cases q'
    · exact (gk b hb).symm.trans q
  · rw [upd_ne (Ne.symm M.dne)]
    exact I1.hok.fresh M.new
theorem s_raise {x : String} {fs : List String} {e : Expr} {es : List Expr} {as : A} {p pos pos2 : Pos} {k : Nat} (E : PyX.ErrC X.prog X.w X.K X.mg (Str.ofString x) (fs.map Str.ofString)) (hc : X.calm = true) (hr : Room k X.A) (tk : Takes X W) (ha : AA X W (e :: es) as) (hg : Gl X (Str.ofString x) := by rfl) (hdb : ((Str.ofString x) == ("__debug__" : Str)) = false := by decide)
    (he : starEach (e :: es) X.env = (false, eval e X.env) :: starEach es X.env := by rfl) (hpl : (backTo pos (starEach es X.env)).any (·.1) = false := by rfl) :
    SS X W (.Raise (some (.Call (.Name (Str.ofString x) p) (e :: es) [] pos)) none pos2) (sRaise x fs as) := by
  obtain ⟨C, hm, pm⟩ := pmk_err E hr ha hg hdb he hpl (p := p) (pos := pos)
  refine (ps_raise hc tk pm).mono fun En σ H ⟨ρ, g, ι, er, s, p⟩ => ?_
  refine ⟨ρ, g, ι, er, s, (PostS.onR er p).imp fun ds g1 H1 ι1 _ x1 s1 p1 vs rs => ?_⟩
  by_cases hl : ds.length = fs.length
  · rw [if_pos hl] at p1
    refine ⟨by rw [List.length_map, ← rs.len]; exact hl, fun d hd => ?_⟩
    have hfs : (fs.zip ds).map (fun f => Str.ofString f.1) = fs.map Str.ofString := by
      have : (fs.zip ds).map (·.1) = fs := List.map_fst_zip (by omega)
      exact (List.map_map (g := Str.ofString) (f := fun f : String × D => f.1) (l := fs.zip ds)).symm.trans (congrArg (List.map Str.ofString) this)
    have hds : (fs.zip ds).map (·.2) = ds := List.map_snd_zip (by omega)
    have sx := s1.newX (fs := fs.zip ds) (vs := vs) hd (by rw [hds]; exact rs)
    rw [hfs] at sx
    refine p1 (.ref C) (some d) σ _ (ι1 ++ [d]) ((Ext.new hd).trans Ext.snoc) sx ((er.ext x1).ext ((Ext.new hd).trans Ext.snoc)) ⟨hm, (fun z => nomatch z), fun r hr => ?_⟩
    cases hr
    exact ⟨d, rfl, by rw [← s1.len]; simp⟩
  · rw [if_neg hl] at p1
    exact p1.elim
/-! ### the classes' table -/
/-- which classes are under the class at D, by isinstance; all instances may be asked -/
def IsT (K : PySem.W.Frag) (mg : Str → Option Value) (cl : String → Option Bool) (u : Value) : Prop := ∀ c b, cl c = some b → ∃ C, mg (Str.ofString c) = some (.ref C) ∧ PySem.W.kitOne K (.ref C) u = some b ∧ ExcC K C
/-- which classes an except clause over c takes -/
def ExT (K : PySem.W.Frag) (mg : Str → Option Value) (cl : String → Option Bool) (u : Value) : Prop := ∀ c b, cl c = some b → ∃ C, mg (Str.ofString c) = some (.ref C) ∧ PySem.W.exmOne K (.ref C) u = some b
/-- these classes' instances may be asked for f -/
def FlT (K : PySem.W.Frag) (mg : Str → Option Value) (cs : List String) (f : Str) : Prop := ∀ c ∈ cs, ∃ C, mg (Str.ofString c) = some (.ref C) ∧ XfC K C ∧ PySem.W.findIn K (.ref C) f = some none
/-! ### try -/
/-- what is known in a suite: e is the exception at a (class cls, dict d) -/
structure Held (mg : Str → Option Value) (e : Exc) (cls : Value) (d : Option Addr) : Prop where
  cls : mg (Str.ofString e.cls) = some cls
  dict : ∀ r, e.at_ = some r → d.isSome = true
  bare : e.at_ = none → d = none
theorem clean_nx {K mg} {W : WX} {En : Ends} {H : Hp} {ι : List Addr} {i : Nat} {q : Option Nat} {r : SR} (h : PostS K mg W En H ι (r.clean i q)) :
    PostS K mg W0 { nx := fun σ' H' => En.nx (σ'.set i none) H', rt := En.rt, bk := fun σ' H' => En.bk (σ'.set i none) H', ct := fun σ' H' => En.ct (σ'.set i none) H' } H ι r := by
  have wip : ∀ {H' ι' ρ σ'}, ER K H' ι' ρ σ' → ER K H' ι' (ρ.set i none) (σ'.set i none) := fun {H' ι' ρ σ'} er => by
    refine ⟨by simp [er.len], fun j d hj => ?_⟩
    by_cases e : j = i
    · subst e
      have := (List.getElem?_eq_some_iff.mp hj).1
      simp at this
      rw [List.getElem?_set_self this] at hj
      cases hj
    · rw [List.getElem?_set_ne (Ne.symm e)] at hj
      obtain ⟨v, h1, h2⟩ := er.at_ j d hj
      exact ⟨v, by rw [List.getElem?_set_ne (Ne.symm e)]; exact h1, h2⟩
  cases r with
  | next ρ g => exact fun σ' H' ι' x s er => h _ H' ι' x (s.unpin q) (wip er)
  | brk ρ g => exact fun σ' H' ι' x s er => h _ H' ι' x (s.unpin q) (wip er)
  | cont ρ g => exact fun σ' H' ι' x s er => h _ H' ι' x (s.unpin q) (wip er)
  | ret d g => exact fun v H' ι' x s r => h v H' ι' x (s.unpin q) r
  | exc e ρ g => exact h.elim
  | bad => exact h
theorem s_tryAs {x n : String} {i : Nat} {body stm : List Stmt} {b₀ : Stmt} {np pos pos' : Pos} {mb : S} {su : Exc → Nat → Nat → S} {cl : String → Option Bool} {u : Value} (hs : X.stack = X.env :: X.outer) (hf : X.env.frame = some X.env.locals) (hN : X.N.Nodup) (tk : Takes X W)
    (hu : X.mg (Str.ofString x) = some u) (ht : ExT X.K X.mg cl u)
    (hb : ∀ (W' : WX) (pn : List (Addr × Obj)) (xe : Value → Shared → Prop), Takes (X.tr pn xe) W' → PassesOwn (model X.prog X.w) X.A X.env xe → SSs (X.tr pn xe) W' body mb)
    (hsu : ∀ (e : Exc) (a : Addr) (oe : Obj) (cls : Value) (d : Option Addr) (pn : List (Addr × Obj)), Zc cls d oe → (∃ vs, oe.data = .fields vs) → Held X.mg e cls d → SSs (X.suite a ((a, oe) :: pn)) W0 (b₀ :: stm) (su e a (d.getD 0)))
    (hi : X.N[i]? = some (Str.ofString n) := by rfl) (hln : X.env.kindOf (Str.ofString n) = some .local := by rfl) (hg : Gl X (Str.ofString x) := by rfl) (hdb : ((Str.ofString x) == ("__debug__" : Str)) = false := by decide) :
    SS X W (.Try body [.ExceptHandler (some (.Name (Str.ofString x) np)) (some (Str.ofString n)) (b₀ :: stm) pos'] [] [] pos) (sTryAs mb cl i su) := by
  refine (ps_try_as (i := i) (tb := fun W' => tS X.K X.mg W' mb) (Wout := W)
    (ts := fun a cls d => fun En σ H => ∃ e, Held X.mg e cls d ∧ tS X.K X.mg W0 (su e a (d.getD 0)) En σ H) hs hf hN hi hln ⟨hg, hdb, .inl hu⟩ tk (fun W' pn xe tk' po => hb W' pn xe tk' po) (fun a oe cls d pn hz hfl => ?_)).mono fun En σ H ⟨ρ, g, ι, er, s, p⟩ => ?_
  · exact ⟨fun pins s σ H En I ⟨e, he, q⟩ => (hsu e a oe cls d pn hz hfl he).run pins s σ H En I q⟩
  · refine ⟨ρ, g, ι, er, s, ?_⟩
    have hm : mb ρ g = mb ρ g := rfl
    unfold sTryAs at p
    cases hb' : mb ρ g with
    | next ρ1 g1 => rw [hb'] at p; exact p
    | brk ρ1 g1 => rw [hb'] at p; exact p
    | cont ρ1 g1 => rw [hb'] at p; exact p
    | ret d g1 => rw [hb'] at p; exact p
    | bad => rw [hb'] at p; exact p.elim
    | exc e ρ1 g1 =>
      rw [hb'] at p
      dsimp only at p
      cases hc : cl e.cls with
      | none => rw [hc] at p; exact p.elim
      | some b =>
        rw [hc] at p
        obtain ⟨C, hC, hex⟩ := ht e.cls b hc
        cases b with
        | false =>
          dsimp only at p
          intro cls dx σ' H' ι' x' s' er' hx
          have e1 : cls = .ref C := Option.some.inj (hx.1.symm.trans hC)
          refine ⟨false, by rw [e1]; exact hex, fun z => Bool.noConfusion z, fun _ => p cls dx σ' H' ι' x' s' er' hx⟩
        | true =>
          dsimp only at p
          intro cls dx σ' H' ι' x' s' er' hx
          have e1 : cls = .ref C := Option.some.inj (hx.1.symm.trans hC)
          refine ⟨true, by rw [e1]; exact hex, fun _ a na => ⟨e, ⟨hx.1, fun r hr => ?_, hx.2.1⟩, ?_⟩, fun z => Bool.noConfusion z⟩
          · obtain ⟨a', h1, _⟩ := hx.2.2 r hr
            rw [h1]; rfl
          · by_cases hw : ∃ r, ∀ a b, (su e a b (ρ1.set i (some (.adr a))) (pinX e.at_ b g1)).clean i e.at_ = r
            · obtain ⟨r, hr⟩ := hw
              rw [same_for_eq hr, ← hr a (dx.getD 0)] at p
              refine ⟨ρ1.set i (some (.adr a)), pinX e.at_ (dx.getD 0) g1, ι', er'.set (.adr a) i, s'.pin fun q hq => ?_, ?_⟩
              · obtain ⟨a', h1, h2⟩ := hx.2.2 q hq
                rw [h1, h2]; rfl
              · have := clean_nx (i := i) (q := e.at_) p
                cases hz : su e a (dx.getD 0) (ρ1.set i (some (.adr a))) (pinX e.at_ (dx.getD 0) g1) with
                | next ρ g => rw [hz] at this; exact fun σ2 H2 ι2 x2 s2 er2 => this σ2 H2 ι2 (x'.trans x2) s2 er2
                | brk ρ g => rw [hz] at this; exact fun σ2 H2 ι2 x2 s2 er2 => this σ2 H2 ι2 (x'.trans x2) s2 er2
                | cont ρ g => rw [hz] at this; exact fun σ2 H2 ι2 x2 s2 er2 => this σ2 H2 ι2 (x'.trans x2) s2 er2
                | ret d g => rw [hz] at this; exact fun v H2 ι2 x2 s2 r2 => this v H2 ι2 (x'.trans x2) s2 r2
                | exc e ρ g => rw [hz] at this; exact fun cls dx σ2 H2 ι2 x2 s2 er2 z => this cls dx σ2 H2 ι2 (x'.trans x2) s2 er2 z
                | bad => rw [hz] at this; exact this
            · unfold same_for at p
              rw [dif_neg hw] at p
              exact p.elim
/-! ### the exception in hand, in a suite -/
variable {a : Addr} {oe : Obj} {cls : Value} {d : Option Addr} {pn : List (Addr × Obj)} {e : Exc}
theorem slot_adr {K H ι} {ρ : Env} {σ : St} {i : Nat} (er : ER K H ι ρ σ) (h : ρ[i]? = some (some (.adr a))) : σ[i]? = some (some (.ref a)) := by
  obtain ⟨v, h1, h2⟩ := er.at_ i _ h
  cases h2
  exact h1
theorem call_isH {C : Addr} {u : Value} {b : Bool} (hC : ExcC X.K C) (hz : Zc (.ref C) d oe) (hf : ∃ vs, oe.data = .fields vs) (hk : PySem.W.kitOne X.K (.ref C) u = some b) :
    CallR (X.suite a ((a, oe) :: pn)) (.builtin "isinstance") fun xs H Q => ∃ c, xs = [.ref a, c] ∧ (∀ v, RelV c v → v = u) ∧ (∀ dd, d = some dd → ∃ fs, H dd = some (.xd fs)) ∧ Q (.bl b) H := by
  intro pins s σ H xs us Q I r h
  obtain ⟨c, rfl, hcv, hd, q⟩ := h
  cases r with
  | cons rx rr =>
    cases rr with
    | cons rt rr =>
      cases rr
      cases rx
      have ec := hcv _ rt
      subst ec
      obtain ⟨hget, _⟩ := I.pin (a, oe) (List.mem_append.mpr (.inl List.mem_cons_self))
      obtain ⟨vs, hv⟩ := hf
      obtain ⟨od, J⟩ : ∃ od, PySem.W.InstAt s.heap a oe C od := by
        obtain ⟨oc, odd, oda, osl⟩ := oe
        obtain ⟨h1, h2⟩ := hz
        dsimp only at h1 h2 hv
        subst h1 h2 hv
        cases odd with
        | none => exact ⟨none, hget, rfl, rfl, trivial⟩
        | some dd =>
          obtain ⟨fs, e⟩ := hd dd rfl
          have hx : ObjOk X.prog X.w H s.heap dd (.xd fs) := I.hok dd _ e
          obtain ⟨mA, hns, _⟩ := hx
          obtain ⟨o, ho, _⟩ := lookIn_ns hns
          exact ⟨some o, hget, rfl, rfl, ho⟩
      have cl : (PySem.W.clsIn X.K C).isSome = true := by
        have := hC.hd
        obtain ⟨cd, hc, _⟩ := PySem.W.any_some this
        rw [hc]; rfl
      exact PySem.W.kia_one (PySem.W.kitx_exc (od := od) cl hC.hg hC.hk hC.hs hC.ha hC.hn hC.ht hC.hm) I.kIn J hk (fun z => nomatch z) fun tk => ⟨.bl b, H, I.kept (t' := tk) fun _ _ z => z, rfl, q⟩
/-- the fields' object, as the store tells it -/
theorem pinned_at {K H ι} {g : G} {r b : Nat} {fs : List (String × D)} (s : SR_ K H ι g) (h : g[r]? = some (.xda b fs)) : ∃ vs, H b = some (.xd ((fs.map fun f => Str.ofString f.1).zip vs)) ∧ Reps K H ι (fs.map (·.2)) vs := by
  have hl := (List.getElem?_eq_some_iff.mp h).1
  have hr : ι[r]? = some (ι[r]'(by rw [s.len]; exact hl)) := List.getElem?_eq_getElem _
  obtain ⟨z, vs, h1, h2⟩ := s.obj r _ _ h hr
  rw [z] at h1
  exact ⟨vs, h1, h2⟩
theorem isE_read {i : Nat} {cl : String → Option Bool} {K mg σ H Q} (he : Held mg e cls d) (h : tE K mg W0 (mIsE cl i e a (d.getD 0)) σ H Q) : ∃ b, cl e.cls = some b ∧ σ[i]? = some (some (.ref a)) ∧ (∀ dd, d = some dd → ∃ fs, H dd = some (.xd fs)) ∧ Q (.bl b) H := by
  obtain ⟨ρ, g, ι, er, s, p⟩ := h
  unfold mIsE at p
  split at p
  · rename_i a' ha
    split at p
    · rename_i e1
      subst e1
      split at p
      · rename_i r hr
        split at p
        · rename_i b' fs hg
          split at p
          · rename_i e2
            obtain ⟨v, h1, h2⟩ := Post.ofP s p
            rw [Option.map_eq_some_iff] at h1
            obtain ⟨b, h1, rfl⟩ := h1
            refine ⟨b, h1, slot_adr er ha, fun dd hd => ?_, h2 _ (.bl b)⟩
            subst e2
            rw [hd] at hg
            obtain ⟨vs, h3, _⟩ := pinned_at s hg
            exact ⟨_, h3⟩
          · exact p.elim
        · exact p.elim
      · rename_i hr
        obtain ⟨v, h1, h2⟩ := Post.ofP s p
        rw [Option.map_eq_some_iff] at h1
        obtain ⟨b, h1, rfl⟩ := h1
        exact ⟨b, h1, slot_adr er ha, (fun dd hd => by rw [he.bare hr] at hd; cases hd), h2 _ (.bl b)⟩
    · exact p.elim
  · exact p.elim
theorem e_isE {x y : String} {i : Nat} {cl : String → Option Bool} {D : Addr} {p p1 p2 pos : Pos} (he : Held X.mg e cls d) (hz : Zc cls d oe) (hf : ∃ vs, oe.data = .fields vs) (hm : X.mg "isinstance" = none) (hy : X.mg (Str.ofString y) = some (.ref D)) (T : IsT X.K X.mg cl (.ref D))
    (hx : X.N[i]? = some (Str.ofString x) := by rfl) (hvis : Vis X.env.scope (Str.ofString x) := by exact .inl rfl) (hg : Gl X "isinstance" := by rfl) (hgy : Gl X (Str.ofString y) := by rfl) (hdx : ((Str.ofString x) == ("__debug__" : Str)) = false := by decide) (hdy : ((Str.ofString y) == ("__debug__" : Str)) = false := by decide) (hcx : ((Str.ofString x) == ("__classdict__" : Str)) = false := by decide)
    (hs : starEach [.Name (Str.ofString x) p1, .Name (Str.ofString y) p2] X.env = (false, eval (.Name (Str.ofString x) p1) X.env) :: starEach [.Name (Str.ofString y) p2] X.env := by rfl) (hs' : starEach [.Name (Str.ofString y) p2] X.env = (false, eval (.Name (Str.ofString y) p2) X.env) :: starEach [] X.env := by rfl)
    (hp : (backTo pos (starEach [.Name (Str.ofString y) p2] X.env)).any (·.1) = false := by rfl) :
    EE (X.suite a ((a, oe) :: pn)) W0 (.Call (.Name "isinstance" p) [.Name (Str.ofString x) p1, .Name (Str.ofString y) p2] [] pos) (mIsE cl i e a (d.getD 0)) := by
  have ha : PE (X.suite a ((a, oe) :: pn)) (.Name (Str.ofString x) p1) (tVar i) := pe_var hx hvis hdx hcx
  have hb : PE (X.suite a ((a, oe) :: pn)) (.Name (Str.ofString y) p2) (tC (.ref D)) := pe_glob hgy hy rfl hdy
  have hA := pa_cons ha (pa_cons hb pa_nil hs') hs
  refine ⟨fun pins s σ H Q I h => ?_⟩
  obtain ⟨b, h1, h2, h3, q⟩ := isE_read he h
  obtain ⟨C, hC, hk, hE⟩ := T e.cls b h1
  have e1 : cls = .ref C := Option.some.inj (he.cls.symm.trans hC)
  subst e1
  have cr := call_isH (X := X) (a := a) (pn := pn) hE hz hf hk
  exact (pe_callB cr hg hm (by decide +kernel) hA (by decide) (by decide) hs hp).run pins s σ H Q I ⟨_, h2, _, rfl, (fun v r => r), h3, q⟩
theorem e_isEB {x y : String} {i : Nat} {cl : String → Option Bool} {T' : String} {p p1 p2 pos : Pos} (he : Held X.mg e cls d) (hz : Zc cls d oe) (hf : ∃ vs, oe.data = .fields vs) (hm : X.mg "isinstance" = none) (hy : X.mg (Str.ofString y) = none) (hyb : bootBuiltins (Str.ofString y) = some (.type T')) (T : IsT X.K X.mg cl (.type T')) (hny : Str.ofString y ≠ "__name__" := by decide)
    (hx : X.N[i]? = some (Str.ofString x) := by rfl) (hvis : Vis X.env.scope (Str.ofString x) := by exact .inl rfl) (hg : Gl X "isinstance" := by rfl) (hgy : Gl X (Str.ofString y) := by rfl) (hdx : ((Str.ofString x) == ("__debug__" : Str)) = false := by decide) (hdy : ((Str.ofString y) == ("__debug__" : Str)) = false := by decide) (hcx : ((Str.ofString x) == ("__classdict__" : Str)) = false := by decide)
    (hs : starEach [.Name (Str.ofString x) p1, .Name (Str.ofString y) p2] X.env = (false, eval (.Name (Str.ofString x) p1) X.env) :: starEach [.Name (Str.ofString y) p2] X.env := by rfl) (hs' : starEach [.Name (Str.ofString y) p2] X.env = (false, eval (.Name (Str.ofString y) p2) X.env) :: starEach [] X.env := by rfl)
    (hp : (backTo pos (starEach [.Name (Str.ofString y) p2] X.env)).any (·.1) = false := by rfl) :
    EE (X.suite a ((a, oe) :: pn)) W0 (.Call (.Name "isinstance" p) [.Name (Str.ofString x) p1, .Name (Str.ofString y) p2] [] pos) (mIsE cl i e a (d.getD 0)) := by
  have ha : PE (X.suite a ((a, oe) :: pn)) (.Name (Str.ofString x) p1) (tVar i) := pe_var hx hvis hdx hcx
  have hb : PE (X.suite a ((a, oe) :: pn)) (.Name (Str.ofString y) p2) (tC (.ty T')) := pe_bltn hgy hy hyb rfl hny hdy
  have hA := pa_cons ha (pa_cons hb pa_nil hs') hs
  refine ⟨fun pins s σ H Q I h => ?_⟩
  obtain ⟨b, h1, h2, h3, q⟩ := isE_read he h
  obtain ⟨C, hC, hk, hE⟩ := T e.cls b h1
  have e1 : cls = .ref C := Option.some.inj (he.cls.symm.trans hC)
  subst e1
  have cr := call_isH (X := X) (a := a) (pn := pn) hE hz hf hk
  exact (pe_callB cr hg hm (by decide +kernel) hA (by decide) (by decide) hs hp).run pins s σ H Q I ⟨_, h2, _, rfl, (fun v r => r), h3, q⟩
theorem ofString_inj {s t : String} (h : Str.ofString s = Str.ofString t) : s = t := by
  rw [Str.ofString_eq_toList, Str.ofString_eq_toList] at h
  have h1 : s.toList.map Char.toNat = t.toList.map Char.toNat := by injection h with h; injection h
  have inj : ∀ (l r : List Char), l.map Char.toNat = r.map Char.toNat → l = r := by
    intro l
    induction l with
    | nil => intro r h; cases r with | nil => rfl | cons _ _ => simp at h
    | cons c l ih =>
      intro r h
      cases r with
      | nil => simp at h
      | cons e r =>
        simp only [List.map_cons, List.cons.injEq] at h
        rw [ih r h.2]
        congr 1
        have := congrArg Char.ofNat h.1
        rwa [Char.ofNat_toNat, Char.ofNat_toNat] at this
  have := inj _ _ h1
  have h2 := congrArg String.ofList this
  rwa [String.ofList_toList, String.ofList_toList] at h2
theorem zip_get {K H ι} : ∀ {fs : List (String × D)} {vs : List V} {f : String} {x : D}, Reps K H ι (fs.map (·.2)) vs → fs.lookup f = some x → ∃ v, ((fs.map fun f => Str.ofString f.1).zip vs).lookup (Str.ofString f) = some v ∧ Rep K H ι x v
  | [], _, _, _, _, h => by cases h
  | (n, y) :: fs, _, f, x, r, h => by
    rw [List.map_cons] at r
    cases r with
    | cons r1 r2 =>
      simp only [List.map_cons, List.zip_cons_cons, List.lookup] at h ⊢
      by_cases e : f = n
      · subst e
        simp at h ⊢
        subst h
        exact r1
      · have e1 : (f == n) = false := by simpa using e
        have e2 : (Str.ofString f == Str.ofString n) = false := by
          have : Str.ofString f ≠ Str.ofString n := fun z => e (ofString_inj z)
          simpa using this
        rw [e1] at h
        rw [e2]
        exact zip_get r2 h
theorem fldE_read {i : Nat} {f : String} {K mg σ H Q} (he : Held mg e cls d) (h : tE K mg W0 (mFldE f i e a (d.getD 0)) σ H Q) : ∃ dd fs v, d = some dd ∧ σ[i]? = some (some (.ref a)) ∧ H dd = some (.xd fs) ∧ fs.lookup (Str.ofString f) = some v ∧ Q v H := by
  obtain ⟨ρ, g, ι, er, s, p⟩ := h
  unfold mFldE at p
  split at p
  · rename_i a' ha
    split at p
    · rename_i e1
      subst e1
      split at p
      · rename_i r hr
        split at p
        · rename_i b' fs hg
          split at p
          · rename_i e2
            subst e2
            obtain ⟨x, h1, h2⟩ := Post.ofP s p
            obtain ⟨dd, hd⟩ := Option.isSome_iff_exists.mp (he.dict r hr)
            rw [hd] at hg
            obtain ⟨vs, h3, h4⟩ := pinned_at s hg
            obtain ⟨v, h5, h6⟩ := zip_get h4 h1
            exact ⟨dd, _, v, hd, slot_adr er ha, h3, h5, h2 v h6⟩
          · exact p.elim
        · exact p.elim
      · exact p.elim
    · exact p.elim
  · exact p.elim
theorem e_fldE {x f : String} {i : Nat} {cs : List String} {p1 pos : Pos} (he : Held X.mg e cls d) (hz : Zc cls d oe) (hf : ∃ vs, oe.data = .fields vs) (T : FlT X.K X.mg cs (Str.ofString f)) (hx : X.N[i]? = some (Str.ofString x) := by rfl) (hvis : Vis X.env.scope (Str.ofString x) := by exact .inl rfl)
    (hdx : ((Str.ofString x) == ("__debug__" : Str)) = false := by decide) (hcx : ((Str.ofString x) == ("__classdict__" : Str)) = false := by decide) (hb : attributeBase (.Name (Str.ofString x) p1) (Str.ofString f) X.env (eval (.Name (Str.ofString x) p1) X.env) = eval (.Name (Str.ofString x) p1) X.env := by rfl) :
    EE (X.suite a ((a, oe) :: pn)) W0 (.Attribute (.Name (Str.ofString x) p1) (Str.ofString f) pos) (mFldC cs f i e a (d.getD 0)) := by
  have hx' : PE (X.suite a ((a, oe) :: pn)) (.Name (Str.ofString x) p1) (tVar i) := pe_var hx hvis hdx hcx
  refine ⟨fun pins s σ H Q I h => ?_⟩
  by_cases hc : cs.contains e.cls = true
  · have h' : tE X.K X.mg W0 (mFldE f i e a (d.getD 0)) σ H Q := by
      obtain ⟨ρ, g, ι, er, s, p⟩ := h
      unfold mFldC at p
      rw [if_pos hc] at p
      exact ⟨ρ, g, ι, er, s, p⟩
    obtain ⟨dd, fs, v, h1, h2, h3, h4, q⟩ := fldE_read he h'
    obtain ⟨C, hC, hX, hno⟩ := T e.cls (by simpa using hc)
    have e1 : cls = .ref C := Option.some.inj (he.cls.symm.trans hC)
    exact (pe_xf (X := X) (a := a) (pn := pn) hX hno hz hf hx' hb).run pins s σ H Q I ⟨_, h2, rfl, e1, dd, fs, v, h1, h3, h4, q⟩
  · obtain ⟨ρ, g, ι, er, s, p⟩ := h
    unfold mFldC at p
    rw [if_neg hc] at p
    exact p.elim
end
end Py
end

section
set_option Elab.async false
set_option linter.all false
set_option maxRecDepth 100000
set_option maxHeartbeats 2000000
set_option autoImplicit false
/-! Own exceptions by facts of the head; calls that may let them out. -/
namespace PyJ
open PySem PySem.W PySem.Calls PyProof.Rows PySem.HandSPX He
/-! ### the class of an own exception, by looking -/
def iAd (K : Frag) (x : Str) : Addr := ma K (ga K x) "__init__"
abbrev FnX : Type := Option (Str × Str × Arguments × FuncBody × Scope × Addr × List Str × Value × Value × Addr)
def fnX (K : Frag) (a : Addr) : FnX := match K.lookup a with
  | some ⟨_, _, .func fd, _⟩ => some (fd.name, fd.qualname, fd.params, fd.body, fd.scope, fd.globals, fd.closure.map (·.1), fd.defaults, fd.kwdefaults, fd.builtins)
  | _ => none
/-- the class in a method's closure -/
def cellD (K : Frag) (a : Addr) : Addr := match K.lookup a with
  | some ⟨_, _, .func fd, _⟩ => (match fd.closure with
    | [(_, cc)] => (match K.lookup cc with
      | some ⟨_, _, .cell (some (.ref D)), _⟩ => D
      | _ => 0)
    | _ => 0)
  | _ => 0
def excB (K : Frag) (C : Addr) : Bool := match K.lookup C with
  | some ⟨.type "type", _, .cls cd, sl⟩ => (match cd.mro, sl.toList with
    | .ref C' :: bm, [_, _, _, _, some (.builtin n), _] => C' == C && (n == "ValueError.__new__" && (!cd.hasDel && (cd.hasDict && refsVE bm)))
    | _, _ => false)
  | _ => false
theorem excB_ok {K : Frag} {C : Addr} (q : excB K C = true) : ∃ nm q N bs bm sn sub ab col dd k0 k1 k2 k3 k5, K.lookup C = some (excClassObj nm q C N bs bm true sn sub ab col dd k0 k1 k2 k3 k5 "ValueError.__new__") ∧ refsVE bm = true := by
  unfold excB at q
  split at q
  · rename_i dd cd sl ho
    split at q
    · rename_i C' bm k0 k1 k2 k3 n k5 hm hs
      simp only [Bool.and_eq_true, beq_iff_eq, Bool.not_eq_true'] at q
      obtain ⟨rfl, rfl, hdel, hdic, hr⟩ := q
      obtain ⟨nm, bs, mro, ns, qn, hd, sn, sub, ab, col, del⟩ := cd
      dsimp only at hm hdel hdic
      subst hm hdel hdic
      obtain ⟨l⟩ := sl
      simp only at hs
      subst hs
      exact ⟨nm, qn, ns, bs, bm, sn, sub, ab, col, dd, k0, k1, k2, k3, k5, ho, hr⟩
    · cases q
  · cases q
/-- what the text says of one class: its name, __init__'s qualified name, parameters, body, scope, its fields -/
structure ErrD where
  x : Str
  qual : Str
  params : Arguments
  body : List Stmt
  scope : Scope
  fs : List Str
def ErrD.val (d : ErrD) : FnX := some ("__init__", d.qual, d.params, .stmts d.body, d.scope, mainGlobals, ["__class__"], .none, .none, builtinsNs)
def initB (K : Frag) (file : Str) (q : Str) (fI : Addr) : Bool := match K.lookup fI with
  | some ⟨_, _, .func fd, _⟩ => (match fd.code, fd.closure with
    | .ref cda, [(_, cc)] => codeIn K (.ref cda) q && ((match K.lookup cda with
        | some ⟨_, _, .fields vs, _⟩ => (match (vs[2]? : Option Value) with
          | some (.str f _) => file == f
          | _ => false)
        | _ => false) && (match K.lookup cc with
        | some ⟨_, _, .cell (some (.ref _)), _⟩ => true
        | _ => false))
    | _, _ => false)
  | _ => false
def ErrD.ok (file : Str) (K : Frag) (d : ErrD) : Bool :=
  eqO (nsIn K mainGlobals d.x) (some (some (.ref (ga K d.x)))) && (excB K (ga K d.x) && (eqO (findIn K (.ref (ga K d.x)) "__setattr__") (some (some (.builtin "object.__setattr__"))) &&
  ((d.fs.all fun f => eqO (findIn K (.ref (ga K d.x)) f) (some none)) && (eqO (findIn K (.ref (ga K d.x)) "__init__") (some (some (.ref (iAd K d.x)))) && (decide (typeIn K (.ref (iAd K d.x)) = some (.type "function")) &&
  (keepIn K (.ref (ga K d.x)) && (decide (subIn K (.ref (ga K d.x)) (.type "BaseException") = some true) && (decide (subIn K (.ref (ga K d.x)) (.type "ValueError") = some true) && (decide (typeIn K (.ref (ga K d.x)) = some (.type "type")) &&
  (initB K file d.qual (iAd K d.x) && ((clsIn K (cellD K (iAd K d.x))).isSome && (decide (mroIn K (ga K d.x) (.ref (cellD K (iAd K d.x))) = some true) && (eqO (ks_superIn K (ga K d.x) (cellD K (iAd K d.x)) "__init__") (some (some (.builtin "ValueError.__init__"))) &&
  eqO (nsIn K cStatics "thirdparty.any") (some none))))))))))))))
theorem init_ok {K : Frag} {P : Program} {file : Str} {d : ErrD} {fI : Addr} (hP : ((P.main.file : Str) == file) = true) (e : fnX K fI = d.val) (c : initB K file d.qual fI = true) :
    ∃ (oc oc2 oc3 : Value) (od od2 od3 : Option Addr) (doc pm : Value) (an : Option Addr) (cda cc : Addr) (ct : Value) (sl sl2 sl3 : Array (Option Value)) (q : Str) (vs : Array Value) (fl : Str) (tf : Tok),
    K.lookup fI = some ⟨oc, od, .func (ksFn "__init__" q d.params d.body d.scope .none .none doc pm an (.ref cda) ct cc), sl⟩ ∧ codeIn K (.ref cda) q = true ∧
    K.lookup cda = some ⟨oc2, od2, .fields vs, sl2⟩ ∧ vs[2]? = some (.str fl tf) ∧ ((P.main.file : Str) == fl) = true ∧ K.lookup cc = some ⟨oc3, od3, .cell (some (.ref (cellD K fI))), sl3⟩ := by
  unfold fnX at e
  unfold initB at c
  unfold cellD
  cases q : K.lookup fI with
  | none => rw [q] at c; cases c
  | some o =>
    obtain ⟨oc, od, dt, sl⟩ := o
    rw [q] at c e
    cases dt with
    | func fd =>
      obtain ⟨n1, n2, n3, n4, n5, n6, n7, n8, n9, n10, n11, n12, n13, n14, n15⟩ := fd
      have e2 : (some (n1, n2, n3, n4, n5, n6, n7.map (·.1), n8, n9, n15) : FnX) = (some ("__init__", d.qual, d.params, .stmts d.body, d.scope, mainGlobals, ["__class__"], .none, .none, builtinsNs) : FnX) := e
      simp only [Option.some.injEq, Prod.mk.injEq] at e2
      obtain ⟨h1, h2, h3, h4, h5, h6, h7, h8, h9, h10⟩ := e2
      subst h1 h2 h3 h4 h5 h6 h8 h9 h10
      dsimp only at c
      split at c
      · rename_i cda y cc
        simp only [List.map_cons, List.map_nil, List.cons.injEq, and_true] at h7
        subst h7
        obtain ⟨c1, c2⟩ := ba c
        obtain ⟨c3, c4⟩ := ba c2
        split at c3
        · rename_i oc2 od2 vs sl2 hl2
          split at c3
          · rename_i fl tf hf
            split at c4
            · rename_i oc3 od3 D sl3 hl3
              dsimp only
              rw [hl3]
              exact ⟨oc, oc2, oc3, od, od2, od3, _, _, _, cda, cc, _, sl, sl2, sl3, _, vs, fl, tf, rfl, c1, hl2, hf, by rw [← eq_of_beq c3]; exact hP, hl3⟩
            · cases c4
          · cases c3
        · cases c3
      · cases c
    | _ => cases c
theorem herr_of {K : Frag} {P : Program} {file : Str} {d : ErrD} (hP : ((P.main.file : Str) == file) = true) (htop : (P.main.scope.names.lookup ("super" : Str)).isSome = false) (e : fnX K (iAd K d.x) = d.val) (c : d.ok file K = true) :
    nsIn K mainGlobals d.x = some (some (.ref (ga K d.x))) ∧ PyX.HErr K P (ga K d.x) (iAd K d.x) (cellD K (iAd K d.x)) d.fs d.params d.body d.scope := by
  unfold ErrD.ok at c
  obtain ⟨c0, c⟩ := ba c
  obtain ⟨c1, c⟩ := ba c
  obtain ⟨c2, c⟩ := ba c
  obtain ⟨c3, c⟩ := ba c
  obtain ⟨c4, c⟩ := ba c
  obtain ⟨c5, c⟩ := ba c
  obtain ⟨c6, c⟩ := ba c
  obtain ⟨c7, c⟩ := ba c
  obtain ⟨c8, c⟩ := ba c
  obtain ⟨c9, c⟩ := ba c
  obtain ⟨c10, c⟩ := ba c
  obtain ⟨c11, c⟩ := ba c
  obtain ⟨c12, c⟩ := ba c
  obtain ⟨c13, c14⟩ := ba c
  refine ⟨eqO_ok c0, excB_ok c1, eqO_ok c2, fun f hf => eqO_ok (List.all_eq_true.mp c3 f hf), eqO_ok c4, of_decide_eq_true c5, c6, of_decide_eq_true c7, of_decide_eq_true c8, of_decide_eq_true c9, init_ok hP e c10, ?_, of_decide_eq_true c12, eqO_ok c13, eqO_ok c14, htop⟩
  exact Option.isSome_iff_exists.mp c11
/-! ### tables -/
def askB (K : Frag) (D : Addr) : Bool := eqO (findIn K (.ref D) "__getattribute__") (some (some (.builtin "BaseException.__getattribute__"))) && (eqO (findIn K (.ref D) "__getattr__") (some none) && (decide (subIn K (.ref D) (.type "BaseException") = some true) &&
  (hasDictIn K D && (eqO (findIn K (.ref D) "__class__") (some (some (.builtin "object.__class__"))) && (eqO (specialIn K (.builtin "object.__class__") "__get__") (some (some (.builtin "getset_descriptor.__get__"))) && (decide (takesIn K (.builtin "object.__class__") = some true) &&
  decide (mroIn K D (.type "object") = some true)))))))
theorem askB_ok {K : Frag} {D : Addr} (c : askB K D = true) : L2.ExcC K D ∧ L2.XfC K D := by
  unfold askB at c
  obtain ⟨c1, c⟩ := ba c
  obtain ⟨c2, c⟩ := ba c
  obtain ⟨c3, c⟩ := ba c
  obtain ⟨c4, c⟩ := ba c
  obtain ⟨c5, c⟩ := ba c
  obtain ⟨c6, c⟩ := ba c
  obtain ⟨c7, c8⟩ := ba c
  exact ⟨⟨eqO_ok c1, eqO_ok c2, of_decide_eq_true c3, c4, eqO_ok c5, eqO_ok c6, of_decide_eq_true c7, of_decide_eq_true c8⟩, ⟨eqO_ok c1, eqO_ok c2, of_decide_eq_true c3, c4⟩⟩
/-- the class u, asked of the classes of tab -/
def isB (u : Frag → Value) (tab : List (String × Bool)) (K : Frag) : Bool := tab.all fun p => eqO (nsIn K mainGlobals (Str.ofString p.1)) (some (some (.ref (ga K (Str.ofString p.1))))) && (decide (kitOne K (.ref (ga K (Str.ofString p.1))) (u K) = some p.2) && askB K (ga K (Str.ofString p.1)))
def exB (u : Frag → Value) (tab : List (String × Bool)) (K : Frag) : Bool := tab.all fun p => eqO (nsIn K mainGlobals (Str.ofString p.1)) (some (some (.ref (ga K (Str.ofString p.1))))) && decide (exmOne K (.ref (ga K (Str.ofString p.1))) (u K) = some p.2)
def flB (f : Str) (cs : List String) (K : Frag) : Bool := cs.all fun c => eqO (nsIn K mainGlobals (Str.ofString c)) (some (some (.ref (ga K (Str.ofString c))))) && (askB K (ga K (Str.ofString c)) && eqO (findIn K (.ref (ga K (Str.ofString c))) f) (some none))
theorem look_mem {α : Type} {c : String} {b : α} : ∀ {tab : List (String × α)}, tab.lookup c = some b → (c, b) ∈ tab
  | [], h => by cases h
  | (x, y) :: t, h => by
    simp only [List.lookup] at h
    cases e : (c == x) with
    | true =>
      rw [e] at h
      cases h
      rw [eq_of_beq e]
      exact List.mem_cons_self
    | false =>
      rw [e] at h
      exact List.mem_cons_of_mem _ (look_mem h)
section
variable {K : Frag} {h : Heap} {mg : Str → Option Value}
theorem isB_ok (X : K.In h) (G : h.Ns mainGlobals mg) {u : Frag → Value} {tab : List (String × Bool)} (c : isB u tab K = true) : Py.IsT K mg (Py.clT tab) (u K) := fun x b hx => by
  have c1 := List.all_eq_true.mp c (x, b) (look_mem hx)
  obtain ⟨c2, c3⟩ := ba c1
  obtain ⟨c4, c5⟩ := ba c3
  exact ⟨ga K (Str.ofString x), mg_of X G (eqO_ok c2), of_decide_eq_true c4, (askB_ok c5).1⟩
theorem exB_ok (X : K.In h) (G : h.Ns mainGlobals mg) {u : Frag → Value} {tab : List (String × Bool)} (c : exB u tab K = true) : Py.ExT K mg (Py.clT tab) (u K) := fun x b hx => by
  have c1 := List.all_eq_true.mp c (x, b) (look_mem hx)
  obtain ⟨c2, c3⟩ := ba c1
  exact ⟨ga K (Str.ofString x), mg_of X G (eqO_ok c2), of_decide_eq_true c3⟩
theorem flB_ok (X : K.In h) (G : h.Ns mainGlobals mg) {f : Str} {cs : List String} (c : flB f cs K = true) : Py.FlT K mg cs f := fun x hx => by
  have c1 := List.all_eq_true.mp c x hx
  obtain ⟨c2, c3⟩ := ba c1
  obtain ⟨c4, c5⟩ := ba c3
  exact ⟨ga K (Str.ofString x), mg_of X G (eqO_ok c2), (askB_ok c4).2, eqO_ok c5⟩
end
/-! ### the hook -/
def asX (g : Addr → Option Obj) : Nat → List Addr
  | 0 => [mainGlobals, cStatics]
  | n + 1 => growD g (asX g n)
abbrev AlX : Type := AlD × Bool × List FnX
def obsX (fa : List Fa) (fn : List DefD) (file : Str) (es : List ErrD) (bs : List (Frag → Bool)) (K : Frag) : AlX := (obsD fa fn K, ((es.all fun d => d.ok file K) && bs.all fun b => b K), es.map fun d => fnX K (iAd K d.x))
def valX (fn : List DefD) (es : List ErrD) : AlX := (valD fn, true, es.map ErrD.val)
def SaysX (fa : List Fa) (fn : List DefD) (file : Str) (es : List ErrD) (bs : List (Frag → Bool)) (K : Frag) : Prop := obsX fa fn file es bs K = valX fn es
def obsXG (n : Nat) (fa : List Fa) (fn : List DefD) (file : Str) (es : List ErrD) (bs : List (Frag → Bool)) (g : Addr → Option Obj) : AlX := obsX fa fn file es bs (frG g (asX g n))
def hookX (n : Nat) (fa : List Fa) (fn : List DefD) (file : Str) (es : List ErrD) (bs : List (Frag → Bool)) : Hook where
  α := AlX
  obs := fun s => obsXG n fa fn file es bs s.heap.get?
  val := fun _ => valX fn es
  says := fun _ h => ∃ K : Frag, K.In h ∧ SaysX fa fn file es bs K
  of := fun _ _ e => ⟨_, frG_in, e⟩
  keeps := fun _ _ _ ⟨K, hK, c⟩ k => ⟨K, Frag.In.keeps hK k, c⟩
theorem obsXG_eq {n : Nat} {fa : List Fa} {fn : List DefD} {file : Str} {es : List ErrD} {bs : List (Frag → Bool)} {g : Addr → Option Obj} {s : Shared} (h : ∀ a, g a = s.heap.get? a) : obsXG n fa fn file es bs g = (hookX n fa fn file es bs).obs s := by
  have e : g = s.heap.get? := funext h
  rw [e] <;> rfl
section
variable {fa : List Fa} {fn : List DefD} {file : Str} {es : List ErrD} {bs : List (Frag → Bool)} {K : Frag}
theorem SaysX.d (c : SaysX fa fn file es bs K) : SaysD fa fn K := congrArg (fun z : AlX => z.1) c
theorem SaysX.bool (c : SaysX fa fn file es bs K) (i : Nat) {b : Frag → Bool} (h : bs[i]? = some b := by rfl) : b K = true := by
  have c1 : ((es.all fun d => d.ok file K) && bs.all fun b => b K) = true := congrArg (fun z : AlX => z.2.1) c
  exact List.all_eq_true.mp (ba c1).2 b (List.mem_of_getElem? h)
theorem SaysX.err (c : SaysX fa fn file es bs K) {P : Program} (hP : ((P.main.file : Str) == file) = true) (htop : (P.main.scope.names.lookup ("super" : Str)).isSome = false) (i : Nat) {d : ErrD} (h : es[i]? = some d := by rfl) :
    nsIn K mainGlobals d.x = some (some (.ref (ga K d.x))) ∧ PyX.HErr K P (ga K d.x) (iAd K d.x) (cellD K (iAd K d.x)) d.fs d.params d.body d.scope := by
  have c1 : ((es.all fun d => d.ok file K) && bs.all fun b => b K) = true := congrArg (fun z : AlX => z.2.1) c
  have c2 : es.map (fun d => fnX K (iAd K d.x)) = es.map ErrD.val := congrArg (fun z : AlX => z.2.2) c
  have c3 : (es.map fun d => fnX K (iAd K d.x))[i]? = (es.map ErrD.val)[i]? := by rw [c2]
  rw [List.getElem?_map, List.getElem?_map, h] at c3
  exact herr_of hP htop (Option.some.inj c3) (List.all_eq_true.mp (ba c1).1 d (List.mem_of_getElem? h))
end
end PyJ
namespace PyJ
open PySem
def initOf (st : Stmt) : Stmt := match st with | .ClassDef _ _ _ body .. => body.getD 0 (.Pass ⟨0, 0, 0, 0⟩) | _ => .Pass ⟨0, 0, 0, 0⟩
end PyJ
namespace Py
open PySem L2
/-! ### calls that may let an exception out -/
section
variable {X : Cx} {W : WX} {e : Expr} {es : List Expr} {k j n : Nat} {x : Str} {p pos : Pos} {f : F} {as : A}
theorem post_s {K mg} {α : Type} {σ : St} {H : Hp} {ι : List Addr} {r : R α} {k : α → G → Hp → List Addr → Prop} (p : Post K mg W σ H ι r k) : Post K mg (fun c d _ H' => W c d σ H') [] H ι r k := by
  cases r <;> exact p
theorem e_callS (cl : Cal X.prog X.w X.K X.mg X.base (L2.CX X.prog X.w) k x n f) (hr : Room j X.A) (hk : k ≤ j) (tk : Takes X W) (ha : AA X W (e :: es) as) (hg : Gl X x := by rfl)
    (hdb : (x == ("__debug__" : Str)) = false := by decide) (he : starEach (e :: es) X.env = (false, eval e X.env) :: starEach es X.env := by rfl) (hpl : (backTo pos (starEach es X.env)).any (·.1) = false := by rfl)
    (hn : ∀ ρ g ds g', as ρ g = .ok ds g' → ds.length = n) : EE X W (.Call (.Name x p) (e :: es) [] pos) (mCall f as) := by
  obtain ⟨a, fd, ps, F, hm, kp, b⟩ := cl.ex
  refine (pe_callS F (hr.mono hk) hg hm kp b (passAt tk) ha hdb he hpl).mono fun σ H Q ⟨ρ, g, ι, er, s, p⟩ => ?_
  refine ⟨ρ, g, ι, er, s, (Post.bind p).imp fun ds g1 H1 ι1 e1 x1 s1 p1 vs rs => ?_⟩
  exact ⟨ds, g1, ι1, s1, rs, hn ρ g ds g1 e1, post_s p1⟩
theorem e_callS0 (cl : Cal X.prog X.w X.K X.mg X.base (L2.CX X.prog X.w) k x 0 f) (hr : Room j X.A) (hk : k ≤ j) (tk : Takes X W) (hg : Gl X x := by rfl)
    (hdb : (x == ("__debug__" : Str)) = false := by decide) : EE X W (.Call (.Name x p) [] [] pos) (mCall f mNil) := by
  obtain ⟨a, fd, ps, F, hm, kp, b⟩ := cl.ex
  have pe : PE X (.Call (.Name x p) [] [] pos) (fun σ H Q => spF X.K X.mg 0 f [] H Q (WE W σ)) := by
    refine ⟨fun pins s σ H Q I h => ?_⟩
    refine wpAny_Call_Name_kw (ld_glob I hg hm ?_ hdb)
    exact PySem.W.callWith_K0 I.kIn kp (run_fnS (us := []) F (hr.mono hk) b (passAt tk σ) I .nil h)
  refine pe.mono fun σ H Q ⟨ρ, g, ι, er, s, p⟩ => ?_
  exact ⟨[], g, ι, s, .nil, rfl, post_s p⟩
theorem tk_go {st : List Stmt} {b : S} (tk : Takes X W) (h : Takes X W → SSs X W st b) : SSs X W st b := h tk
end
/-- a def that lets nothing out -/
def sp0 (sp : Sp) : Sp := fun vs H Q _ => sp vs H Q fun _ _ _ => False
theorem fn_calm {P : Program} {w : World} {K : PySem.W.Frag} {mg : Str → Option Value} {base : Heap} {k : Nat} {fa : Addr} {fd : FuncData} {ps : List Str} {sp : Sp} (F : FnOk P w K mg base (L2.CX P w) k fa fd ps sp) : FnOk P w K mg base CX0 k fa fd ps (sp0 sp) := by
  refine ⟨fun vs H Q E h => F.len vs H Q _ h, fun A outer s H args us vs Q E hr he hb hv h => codeAny_mono (F.run A outer s H args us vs Q _ hr he hb hv h) fun r s' z => ?_⟩
  cases r with
  | ok fl => cases fl <;> exact z
  | error e =>
    obtain ⟨_, _, _, _, _, _, _, _, _, _, _, _, q⟩ := z
    exact q.elim
end Py
end

section
set_option autoImplicit false
set_option linter.all false
/-! Reasoning about the small semantics: weakest preconditions as rewriting. -/
namespace Py
def wp {α : Type} (r : R α) (Q : α → G → Prop) : Prop := match r with | .ok a g => Q a g | _ => False
structure Kt where
  nx : Env → G → Prop
  rt : D → G → Prop
  bk : Env → G → Prop
  ct : Env → G → Prop
def wpS (r : SR) (k : Kt) : Prop := match r with | .next ρ g => k.nx ρ g | .ret d g => k.rt d g | .brk ρ g => k.bk ρ g | .cont ρ g => k.ct ρ g | _ => False
section
variable {α β : Type} {Q : α → G → Prop} {Q' : D → G → Prop} {ρ : Env} {g : G} {k : Kt}
@[simp] theorem wp_ok (a : α) : wp (.ok a g) Q = Q a g := rfl
@[simp] theorem wp_bad : wp (α := α) .bad Q = False := rfl
@[simp] theorem wp_exc (e : Exc) : wp (α := α) (.exc e g) Q = False := rfl
@[simp] theorem wp_bind (r : R β) (f : β → G → R α) : wp (r.bind f) Q = wp r fun a g => wp (f a g) Q := by cases r <;> rfl
theorem wp_imp {r : R α} {P : α → G → Prop} (h : wp r P) (i : ∀ a g, P a g → Q a g) : wp r Q := by cases r <;> first | exact i _ _ h | exact h
theorem wp_and {r : R α} {P : α → G → Prop} (h : wp r P) (h' : wp r Q) : wp r fun a g => P a g ∧ Q a g := by cases r <;> first | exact ⟨h, h'⟩ | exact h
@[simp] theorem wp_ite (c : Prop) [Decidable c] (x y : R α) : wp (if c then x else y) Q = if c then wp x Q else wp y Q := by split <;> rfl
theorem wp_ofP (o : Option α) : wp (ofP o g) Q ↔ ∃ a, o = some a ∧ Q a g := by
  cases o with
  | none => exact ⟨fun h => h.elim, fun ⟨_, h, _⟩ => by cases h⟩
  | some a => exact ⟨fun h => ⟨a, rfl, h⟩, fun ⟨_, h, q⟩ => by cases h; exact q⟩
theorem wp_ofO (o : Option (α × G)) : wp (ofO o) Q ↔ ∃ a g', o = some (a, g') ∧ Q a g' := by
  cases o with
  | none => exact ⟨fun h => h.elim, fun ⟨_, _, h, _⟩ => by cases h⟩
  | some p => exact ⟨fun h => ⟨p.1, p.2, rfl, h⟩, fun ⟨_, _, h, q⟩ => by cases h; exact q⟩
theorem wp_ofO_some {o : Option (α × G)} {a : α} {g' : G} (h : o = some (a, g')) : wp (ofO o) Q = Q a g' := by subst h; rfl
/-! ### expressions -/
def vr (o : Option (Option D)) (g : G) : R D := match o with | some (some d) => .ok d g | _ => .bad
@[simp] theorem vr_some (d : D) : vr (some (some d)) g = .ok d g := rfl
@[simp] theorem x_var (i : Nat) : mVar i ρ g = vr ρ[i]? g := rfl
@[simp] theorem x_C (d : D) : mC d ρ g = .ok d g := rfl
@[simp] theorem x_op (f : N2) (a b : M) : mOp f a b ρ g = (a ρ g).bind fun x g1 => (b ρ g1).bind fun y g2 => ofO (f x y g2) := rfl
@[simp] theorem x_un (f : N1) (a : M) : mUn f a ρ g = (a ρ g).bind fun x g1 => ofO (f x g1) := rfl
@[simp] theorem x_nil : mNil ρ g = .ok [] g := rfl
@[simp] theorem x_cons (a : M) (as : A) : mCons a as ρ g = (a ρ g).bind fun x g1 => (as ρ g1).bind fun xs g2 => .ok (x :: xs) g2 := rfl
@[simp] theorem x_tup (as : A) : mTup as ρ g = (as ρ g).bind fun xs g1 => if xs.length ≤ LINE then .ok (.tup xs) g1 else .bad := rfl
@[simp] theorem x_lst (as : A) : mLst as ρ g = (as ρ g).bind fun xs g1 => if xs.length ≤ LINE then .ok (.ref g1.length) (g1 ++ [.lst xs]) else .bad := rfl
@[simp] theorem x_call (f : F) (as : A) : mCall f as ρ g = (as ρ g).bind fun xs g1 => f xs g1 := rfl
@[simp] theorem x_if (t : T) (a b : M) : mIf t a b ρ g = (t ρ g).bind fun c g1 => if c then a ρ g1 else b ρ g1 := rfl
@[simp] theorem x_and (a b : M) : mAnd a b ρ g = (a ρ g).bind fun x g1 => (ofP (asB x) g1).bind fun c g2 => if c then b ρ g2 else .ok (.bl false) g2 := rfl
@[simp] theorem x_or (a b : M) : mOr a b ρ g = (a ρ g).bind fun x g1 => (ofP (asB x) g1).bind fun c g2 => if c then .ok (.bl true) g2 else b ρ g2 := rfl
@[simp] theorem x_not (a : M) : mNot a ρ g = (a ρ g).bind fun x g1 => (ofP (asB x) g1).bind fun c g2 => .ok (.bl (!c)) g2 := rfl
@[simp] theorem x_chain (f f' : B2) (a b c : M) : mChain f f' a b c ρ g = (a ρ g).bind fun x g1 => (b ρ g1).bind fun y g2 => (ofP (f x y g2) g2).bind fun z g3 =>
  (ofP (asB z) g3).bind fun k g4 => if k then (c ρ g4).bind fun w g5 => ofP (f' y w g5) g5 else .ok (.bl false) g4 := rfl
@[simp] theorem x_tVal (a : M) : tVal a ρ g = (a ρ g).bind fun x g1 => ofP (asB x) g1 := rfl
@[simp] theorem x_tTru (a : M) : tTru a ρ g = (a ρ g).bind fun x g1 => ofP (truth x g1) g1 := rfl
@[simp] theorem x_tAnd (a b : T) : tAnd a b ρ g = (a ρ g).bind fun c g1 => if c then b ρ g1 else .ok false g1 := rfl
@[simp] theorem x_tOr (a b : T) : tOr a b ρ g = (a ρ g).bind fun c g1 => if c then .ok true g1 else b ρ g1 := rfl
@[simp] theorem x_tNot (a : T) : tNot a ρ g = (a ρ g).bind fun c g1 => .ok (!c) g1 := rfl
@[simp] theorem x_tYes : tYes ρ g = .ok true g := rfl
@[simp] theorem x_sl (a : M) (lo hi : Option M) : mSl a lo hi ρ g = (a ρ g).bind fun x g1 => (mIx lo ρ g1).bind fun l g2 => (mIx hi ρ g2).bind fun h g3 => ofO (oSl x l h g3) := rfl
@[simp] theorem x_ixN : mIx none ρ g = .ok none g := rfl
@[simp] theorem x_ixS (m : M) : mIx (some m) ρ g = (m ρ g).bind fun d g1 => (ofP (asI d) g1).bind fun i g2 => .ok (some i) g2 := rfl
@[simp] theorem x_app (o e : M) : mApp o e ρ g = (o ρ g).bind fun x g1 => if (lstOf x g1).isSome then (e ρ g1).bind fun y g2 => ofO (oAppend x y g2) else .bad := rfl
@[simp] theorem x_asB (b : Bool) : asB (.bl b) = some b := rfl
@[simp] theorem x_asI (i : Int) : asI (.int i) = some i := rfl
@[simp] theorem x_any (a : M) : iAny a ρ g = (a ρ g).bind fun x g1 => ofP (iterOf x g1) g1 := rfl
@[simp] theorem x_lc (w : I) (t : Tg) (c : T) (e : M) (own : List Nat) : mLc w t c e own ρ g = (w ρ g).bind fun it g1 => lcGo it.get t c e (wipe ρ own) g1.length (it.n + 1) 0 (g1 ++ [.lst []]) := rfl
@[simp] theorem ofO_p2 (f : B2) (x y : D) : ofO (p2 f x y g) = ofP (f x y g) g := by
  unfold p2
  cases f x y g <;> rfl
@[simp] theorem ofO_p1 (f : B1) (x : D) : ofO (p1 f x g) = ofP (f x g) g := by
  unfold p1
  cases f x g <;> rfl
/-! ### operators on ints, texts -/
@[simp] theorem add_int (i j : Int) : oAdd (.int i) (.int j) g = some (.int (i + j), g) := rfl
@[simp] theorem add_str (s t : List Char) : wp (ofO (oAdd (.str s) (.str t) g)) Q' ↔ s.length + t.length ≤ LINE ∧ Q' (.str (s ++ t)) g := by
  show wp (ofO (if s.length + t.length ≤ LINE then _ else none)) Q' ↔ _
  split
  · rename_i h; exact ⟨fun q => ⟨h, q⟩, fun q => q.2⟩
  · rename_i h; exact ⟨fun q => q.elim, fun q => absurd q.1 h⟩
@[simp] theorem add_tup (s t : List D) : wp (ofO (oAdd (.tup s) (.tup t) g)) Q' ↔ s.length + t.length ≤ LINE ∧ Q' (.tup (s ++ t)) g := by
  show wp (ofO (if s.length + t.length ≤ LINE then _ else none)) Q' ↔ _
  split
  · rename_i h; exact ⟨fun q => ⟨h, q⟩, fun q => q.2⟩
  · rename_i h; exact ⟨fun q => q.elim, fun q => absurd q.1 h⟩
theorem add_lst {a b : Nat} {xs ys : List D} (h1 : g[a]? = some (.lst xs)) (h2 : g[b]? = some (.lst ys)) : wp (ofO (oAdd (.ref a) (.ref b) g)) Q' ↔ xs.length + ys.length ≤ LINE ∧ Q' (.ref g.length) (g ++ [.lst (xs ++ ys)]) := by
  have e1 : mutOf (.ref a) g = some (a, xs) := by unfold mutOf; dsimp only; rw [h1]
  have e2 : mutOf (.ref b) g = some (b, ys) := by unfold mutOf; dsimp only; rw [h2]
  unfold oAdd
  dsimp only
  rw [e1, e2]
  show wp (ofO (if xs.length + ys.length ≤ LINE then _ else none)) Q' ↔ _
  split
  · rename_i h; exact ⟨fun q => ⟨h, q⟩, fun q => q.2⟩
  · rename_i h; exact ⟨fun q => q.elim, fun q => absurd q.1 h⟩
@[simp] theorem sub_int (i j : Int) : oSub (.int i) (.int j) g = some (.int (i - j), g) := rfl
@[simp] theorem mul_int (i j : Int) : wp (ofO (oMul (.int i) (.int j) g)) Q' ↔ mulOk i j = true ∧ Q' (.int (i * j)) g := by
  show wp (ofO (if mulOk i j = true then _ else none)) Q' ↔ _
  split
  · rename_i h; exact ⟨fun q => ⟨h, q⟩, fun q => q.2⟩
  · rename_i h; exact ⟨fun q => q.elim, fun q => absurd q.1 h⟩
@[simp] theorem mul_str (s : List Char) (n : Int) : wp (ofO (oMul (.str s) (.int n) g)) Q' ↔ (2 ≤ n ∧ n ≤ 1000 ∧ s.length ≤ 1000) ∧ Q' (.str (List.replicate n.toNat s).flatten) g := by
  show wp (ofO (if 2 ≤ n ∧ n ≤ 1000 ∧ s.length ≤ 1000 then _ else none)) Q' ↔ _
  split
  · rename_i h; exact ⟨fun q => ⟨h, q⟩, fun q => q.2⟩
  · rename_i h; exact ⟨fun q => q.elim, fun q => absurd q.1 h⟩
@[simp] theorem mul_tup (s : List D) (n : Int) : wp (ofO (oMul (.tup s) (.int n) g)) Q' ↔ (2 ≤ n ∧ n ≤ 1000 ∧ s.length ≤ 1000 ∧ s.length ≠ 0) ∧ Q' (.tup (List.replicate n.toNat s).flatten) g := by
  show wp (ofO (if 2 ≤ n ∧ n ≤ 1000 ∧ s.length ≤ 1000 ∧ s.length ≠ 0 then _ else none)) Q' ↔ _
  split
  · rename_i h; exact ⟨fun q => ⟨h, q⟩, fun q => q.2⟩
  · rename_i h; exact ⟨fun q => q.elim, fun q => absurd q.1 h⟩
@[simp] theorem fdiv_int (i j : Int) : wp (ofO (oFdiv (.int i) (.int j) g)) Q' ↔ (0 < j ∧ j.natAbs.log2 < 9000) ∧ Q' (.int (i / j)) g := by
  show wp (ofO (if 0 < j ∧ j.natAbs.log2 < 9000 then _ else none)) Q' ↔ _
  split
  · rename_i h; exact ⟨fun q => ⟨h, q⟩, fun q => q.2⟩
  · rename_i h; exact ⟨fun q => q.elim, fun q => absurd q.1 h⟩
@[simp] theorem mod_int (i j : Int) : wp (ofO (oMod (.int i) (.int j) g)) Q' ↔ 0 < j ∧ Q' (.int (i % j)) g := by
  show wp (ofO (if 0 < j then _ else none)) Q' ↔ _
  split
  · rename_i h; exact ⟨fun q => ⟨h, q⟩, fun q => q.2⟩
  · rename_i h; exact ⟨fun q => q.elim, fun q => absurd q.1 h⟩
@[simp] theorem pow_int (i j : Int) : wp (ofO (oPow (.int i) (.int j) g)) Q' ↔ powOk i j = true ∧ Q' (.int (i ^ j.toNat)) g := by
  show wp (ofO (if powOk i j = true then _ else none)) Q' ↔ _
  split
  · rename_i h; exact ⟨fun q => ⟨h, q⟩, fun q => q.2⟩
  · rename_i h; exact ⟨fun q => q.elim, fun q => absurd q.1 h⟩
@[simp] theorem neg_int (i : Int) : oNeg (.int i) g = some (.int (-i), g) := rfl
@[simp] theorem eqD_int (i j : Int) : eqD (.int i) (.int j) g = some (i == j) := rfl
@[simp] theorem eqD_str (i j : List Char) : eqD (.str i) (.str j) g = some (i == j) := rfl
@[simp] theorem eqD_bl (i j : Bool) : eqD (.bl i) (.bl j) g = some (i == j) := rfl
@[simp] theorem eq_def (x y : D) : oEq x y g = (eqD x y g).map .bl := rfl
@[simp] theorem ne_def (x y : D) : oNe x y g = (eqD x y g).map fun b => .bl (!b) := rfl
@[simp] theorem in_def (x y : D) : oIn x y g = (inD x y g).map .bl := rfl
@[simp] theorem notIn_def (x y : D) : oNotIn x y g = (inD x y g).map fun b => .bl (!b) := rfl
@[simp] theorem lt_int (i j : Int) : oLt (.int i) (.int j) g = some (.bl (decide (i < j))) := rfl
@[simp] theorem le_int (i j : Int) : oLe (.int i) (.int j) g = some (.bl (decide (i ≤ j))) := rfl
@[simp] theorem gt_int (i j : Int) : oGt (.int i) (.int j) g = some (.bl (decide (j < i))) := rfl
@[simp] theorem ge_int (i j : Int) : oGe (.int i) (.int j) g = some (.bl (decide (j ≤ i))) := rfl
@[simp] theorem in_str (c : Char) (t : List Char) : inD (.str [c]) (.str t) g = some (decide (c ∈ t)) := rfl
theorem inD_ref (x : D) (r : Nat) : inD x (.ref r) g = match lstOf (.ref r) g with
    | some xs => match view g 60 x, viewL (view g 60) xs with
      | some p, some ps => some (ps.any fun q => P.eqv q p)
      | _, _ => none
    | none => none := by
  cases x with
  | str s => rcases s with _ | ⟨c, _ | ⟨d, s⟩⟩ <;> rfl
  | _ => rfl
theorem inD_tup (x : D) (ds : List D) : inD x (.tup ds) g = if flat x && ds.all flat then some (ds.any fun y => eqF y x) else none := by
  cases x with
  | str s => rcases s with _ | ⟨c, _ | ⟨d, s⟩⟩ <;> rfl
  | _ => rfl
@[simp] theorem isN_non : oIsN .non .non g = some (.bl true) := rfl
@[simp] theorem isN_bl (b : Bool) : oIsN (.bl b) .non g = some (.bl false) := rfl
@[simp] theorem isN_int (b : Int) : oIsN (.int b) .non g = some (.bl false) := rfl
@[simp] theorem isN_str (b : List Char) : oIsN (.str b) .non g = some (.bl false) := rfl
@[simp] theorem isN_tup (b : List D) : oIsN (.tup b) .non g = some (.bl false) := rfl
@[simp] theorem isN_ref (b : Nat) : oIsN (.ref b) .non g = some (.bl false) := rfl
@[simp] theorem notN_non : oNotN .non .non g = some (.bl false) := rfl
@[simp] theorem notN_bl (b : Bool) : oNotN (.bl b) .non g = some (.bl true) := rfl
@[simp] theorem notN_int (b : Int) : oNotN (.int b) .non g = some (.bl true) := rfl
@[simp] theorem notN_str (b : List Char) : oNotN (.str b) .non g = some (.bl true) := rfl
@[simp] theorem notN_tup (b : List D) : oNotN (.tup b) .non g = some (.bl true) := rfl
@[simp] theorem notN_ref (b : Nat) : oNotN (.ref b) .non g = some (.bl true) := rfl
/-! ### places -/
@[simp] theorem idx_tup (ds : List D) (i : Int) : oIdx (.tup ds) (.int i) g = atI ds i := rfl
theorem idx_ref {r : Nat} {ds : List D} (i : Int) (h : lstOf (.ref r) g = some ds) : oIdx (.ref r) (.int i) g = atI ds i := by unfold oIdx; dsimp only; rw [h]; rfl
@[simp] theorem idx_str (s : List Char) (i : Int) : oIdx (.str s) (.int i) g = if s.length ≤ LINE then (atI s i).map fun c => .str [c] else none := rfl
theorem atI_nat {γ : Type} (xs : List γ) (n : Nat) : atI xs (n : Int) = xs[n]? := by
  unfold atI ix
  rw [if_pos (Int.natCast_nonneg n)]
  by_cases h : n < xs.length
  · rw [if_pos (by omega)]; rfl
  · rw [if_neg (by omega), List.getElem?_eq_none (by omega)]; rfl
theorem atI_int {γ : Type} (xs : List γ) {i : Int} (h0 : 0 ≤ i) : atI xs i = xs[i.toNat]? := by
  obtain ⟨n, rfl⟩ := Int.eq_ofNat_of_zero_le h0
  rw [atI_nat]; rfl
@[simp] theorem atI_0 {γ : Type} (xs : List γ) : atI xs 0 = xs[0]? := atI_nat xs 0
@[simp] theorem atI_1 {γ : Type} (xs : List γ) : atI xs 1 = xs[1]? := atI_nat xs 1
@[simp] theorem atI_2 {γ : Type} (xs : List γ) : atI xs 2 = xs[2]? := atI_nat xs 2
@[simp] theorem atI_3 {γ : Type} (xs : List γ) : atI xs 3 = xs[3]? := atI_nat xs 3
@[simp] theorem atI_4 {γ : Type} (xs : List γ) : atI xs 4 = xs[4]? := atI_nat xs 4
theorem atI_mem {γ : Type} {xs : List γ} {i : Int} (h0 : 0 ≤ i) (h1 : i < xs.length) : ∃ x, atI xs i = some x ∧ x ∈ xs := by
  rw [atI_int xs h0]
  have : i.toNat < xs.length := by omega
  exact ⟨xs[i.toNat], List.getElem?_eq_getElem this, List.getElem_mem this⟩
@[simp] theorem sl_str (s : List Char) (lo hi : Option Int) : wp (ofO (oSl (.str s) lo hi g)) Q' ↔ s.length ≤ LINE ∧ Q' (.str (cut s lo hi)) g := by
  show wp (ofO (if s.length ≤ LINE then _ else none)) Q' ↔ _
  split
  · rename_i h; exact ⟨fun q => ⟨h, q⟩, fun q => q.2⟩
  · rename_i h; exact ⟨fun q => q.elim, fun q => absurd q.1 h⟩
@[simp] theorem sl_tup (s : List D) (lo hi : Option Int) : oSl (.tup s) lo hi g = some (.tup (cut s lo hi), g) := rfl
theorem sl_ref {r : Nat} {ds : List D} (lo hi : Option Int) (h : lstOf (.ref r) g = some ds) : oSl (.ref r) lo hi g = some (newL (cut ds lo hi) g) := by unfold oSl; dsimp only; rw [h]; rfl
/-! ### built-ins -/
@[simp] theorem int_int (i : Int) : oInt (.int i) g = some (.int i) := rfl
@[simp] theorem int_bl (b : Bool) : oInt (.bl b) g = some (.int (b2i b)) := rfl
@[simp] theorem len_tup (ds : List D) : oLen (.tup ds) g = some (.int ds.length) := rfl
@[simp] theorem len_str (s : List Char) : oLen (.str s) g = if s.length ≤ LINE then some (.int s.length) else none := by
  unfold oLen lenD
  dsimp only
  split <;> rfl
theorem len_ref {r : Nat} {ds : List D} (h : lstOf (.ref r) g = some ds) : oLen (.ref r) g = some (.int ds.length) := by unfold oLen lenD; dsimp only; rw [h]; rfl
@[simp] theorem ord_1 (c : Char) : oOrd (.str [c]) g = some (.int c.toNat) := rfl
@[simp] theorem min_int (i j : Int) : oMin (.int i) (.int j) g = some (.int (if j < i then j else i)) := rfl
@[simp] theorem max_int (i j : Int) : oMax (.int i) (.int j) g = some (.int (if j > i then j else i)) := rfl
@[simp] theorem tuple_tup (ds : List D) : oTuple (.tup ds) g = some (.tup ds, g) := rfl
theorem tuple_ref {r : Nat} {ds : List D} (h : lstOf (.ref r) g = some ds) : oTuple (.ref r) g = some (.tup ds, g) := by unfold oTuple; rw [show seqOf (.ref r) g = some ds from h]; rfl
@[simp] theorem list_tup (ds : List D) : oList (.tup ds) g = some (newL ds g) := rfl
theorem list_ref {r : Nat} {ds : List D} (h : lstOf (.ref r) g = some ds) : oList (.ref r) g = some (newL ds g) := by unfold oList; rw [show seqOf (.ref r) g = some ds from h]; rfl
@[simp] theorem isi_def (t : Ty) (x : D) : oIsi t x g = (tyOf x g).map fun u => .bl (isTy t u) := rfl
@[simp] theorem ty_non : tyOf .non g = some none := rfl
@[simp] theorem ty_bl (b : Bool) : tyOf (.bl b) g = some (some .bool) := rfl
@[simp] theorem ty_int (b : Int) : tyOf (.int b) g = some (some .int) := rfl
@[simp] theorem ty_str (b : List Char) : tyOf (.str b) g = some (some .str) := rfl
@[simp] theorem ty_tup (b : List D) : tyOf (.tup b) g = some (some .tuple) := rfl
theorem ty_ref {r : Nat} {ds : List D} (h : lstOf (.ref r) g = some ds) : tyOf (.ref r) g = some (some .list) := by
  unfold lstOf at h
  unfold tyOf
  dsimp only at h ⊢
  split at h
  · rfl
  · rfl
  · cases h
theorem lstOf_lst {r : Nat} {ds : List D} (h : g[r]? = some (.lst ds)) : lstOf (.ref r) g = some ds := by unfold lstOf; dsimp only; rw [h]
theorem lstOf_frz {r : Nat} {ds : List D} (h : g[r]? = some (.frz ds)) : lstOf (.ref r) g = some ds := by unfold lstOf; dsimp only; rw [h]
theorem mutOf_lst {r : Nat} {ds : List D} (h : g[r]? = some (.lst ds)) : mutOf (.ref r) g = some (r, ds) := by unfold mutOf; dsimp only; rw [h]
theorem append_lst {r : Nat} {xs : List D} {y : D} (h : g[r]? = some (.lst xs)) : wp (ofO (oAppend (.ref r) y g)) Q' ↔ xs.length < LINE ∧ Q' .non (g.set r (.lst (xs ++ [y]))) := by
  unfold oAppend
  rw [mutOf_lst h]
  show wp (ofO (if xs.length < LINE then _ else none)) Q' ↔ _
  split
  · rename_i h; exact ⟨fun q => ⟨h, q⟩, fun q => q.2⟩
  · rename_i h; exact ⟨fun q => q.elim, fun q => absurd q.1 h⟩
/-! ### iterators -/
@[simp] theorem iter_tup (ds : List D) : iterOf (.tup ds) g = some (itL ds) := rfl
@[simp] theorem iter_str (s : List Char) : iterOf (.str s) g = some (itL (s.map fun c => .str [c])) := rfl
theorem iter_ref {r : Nat} {ds : List D} (h : lstOf (.ref r) g = some ds) : iterOf (.ref r) g = some (itR r ds.length) := by unfold iterOf; dsimp only; rw [h]; rfl
@[simp] theorem x_range1 (a : M) : iRange1 a ρ g = (a ρ g).bind fun x g1 => match x with
  | .int j => if -SMALL ≤ j ∧ j < SMALL then .ok (itL (rng 0 j.toNat)) g1 else .bad
  | _ => .bad := rfl
@[simp] theorem x_range2 (a b : M) : iRange2 a b ρ g = (a ρ g).bind fun x g1 => (b ρ g1).bind fun y g2 => match x, y with
  | .int i, .int j => if (-SMALL ≤ i ∧ i < SMALL) ∧ -SMALL ≤ j ∧ j < SMALL then .ok (itL (rng i (j - i).toNat)) g2 else .bad
  | _, _ => .bad := rfl
theorem rng_at {lo : Int} {n i : Nat} {d : D} (h : (rng lo n)[i]? = some d) : i < n ∧ d = .int (lo + i) := by
  unfold rng at h
  rw [List.getElem?_map, Option.map_eq_some_iff] at h
  obtain ⟨k, h1, rfl⟩ := h
  have := List.getElem?_eq_some_iff.mp h1
  obtain ⟨hl, e⟩ := this
  simp at hl e
  subst e
  exact ⟨hl, rfl⟩
@[simp] theorem rng_len (lo : Int) (n : Nat) : (rng lo n).length = n := by simp [rng]
/-! ### statements -/
@[simp] theorem wpS_next : wpS (.next ρ g) k = k.nx ρ g := rfl
@[simp] theorem wpS_ret (d : D) : wpS (.ret d g) k = k.rt d g := rfl
@[simp] theorem wpS_brk : wpS (.brk ρ g) k = k.bk ρ g := rfl
@[simp] theorem wpS_cont : wpS (.cont ρ g) k = k.ct ρ g := rfl
@[simp] theorem wpS_bad : wpS .bad k = False := rfl
@[simp] theorem wpS_exc (e : Exc) : wpS (.exc e ρ g) k = False := rfl
@[simp] theorem wpS_ite (c : Prop) [Decidable c] (x y : SR) : wpS (if c then x else y) k = if c then wpS x k else wpS y k := by split <;> rfl
@[simp] theorem wpS_onR (r : R α) (f : α → G → SR) : wpS (onR r ρ f) k = wp r fun a g => wpS (f a g) k := by cases r <;> rfl
/-- what follows, not looked into by simp -/
def lz (b : S) (ρ : Env) (g : G) (k : Kt) : Prop := wpS (b ρ g) k
@[simp] theorem y_seq (a b : S) : wpS (sSeq a b ρ g) k = wpS (a ρ g) { k with nx := fun ρ g => lz b ρ g k } := by
  unfold sSeq
  cases a ρ g <;> rfl
@[simp] theorem y_nil : sNil ρ g = .next ρ g := rfl
@[simp] theorem y_brk : sBreak ρ g = .brk ρ g := rfl
@[simp] theorem y_cont : sCont ρ g = .cont ρ g := rfl
@[simp] theorem y_expr (e : M) : sExpr e ρ g = onR (e ρ g) ρ fun _ g1 => .next ρ g1 := rfl
@[simp] theorem y_ret (e : M) : sRet e ρ g = onR (e ρ g) ρ fun d g1 => .ret d g1 := rfl
@[simp] theorem y_retN : sRetN ρ g = .ret .non g := rfl
@[simp] theorem y_if (t : T) (a b : S) : sIf t a b ρ g = onR (t ρ g) ρ fun c g1 => if c then a ρ g1 else b ρ g1 := rfl
@[simp] theorem y_asg (e : M) (i : Nat) : sAsg e (gName i) ρ g = onR (e ρ g) ρ fun d g1 => .next (ρ.set i (some d)) g1 := rfl
@[simp] theorem y_asgT (e : M) (t : Tgs) : wpS (sAsg e (gTup t) ρ g) k ↔ wp (e ρ g) fun d g1 => ∃ ρ', gTup t d ρ = some ρ' ∧ k.nx ρ' g1 := by
  unfold sAsg
  cases e ρ g with
  | ok d g1 =>
    show wpS (match gTup t d ρ with | some ρ1 => .next ρ1 g1 | none => .bad) k ↔ ∃ ρ', gTup t d ρ = some ρ' ∧ k.nx ρ' g1
    cases gTup t d ρ with
    | none => exact ⟨fun h => h.elim, fun ⟨_, h, _⟩ => by cases h⟩
    | some a => exact ⟨fun h => ⟨a, rfl, h⟩, fun ⟨_, h, q⟩ => by cases h; exact q⟩
  | exc e g1 => exact Iff.rfl
  | bad => exact Iff.rfl
@[simp] theorem g_tup_tup (t : Tgs) (ds : List D) : gTup t (.tup ds) ρ = t ds ρ := rfl
@[simp] theorem g_cons_cons (t : Tg) (u : Tgs) (d : D) (ds : List D) : gCons t u (d :: ds) ρ = (t d ρ).bind (u ds) := rfl
@[simp] theorem g_nil_nil : gNil [] ρ = some ρ := rfl
@[simp] theorem g_name_d (i : Nat) (d : D) : gName i d ρ = some (ρ.set i (some d)) := rfl
@[simp] theorem y_setI (o i e : M) : sSetI o i e ρ g = onR (e ρ g) ρ fun v g1 => onR (o ρ g1) ρ fun x g2 => onR (i ρ g2) ρ fun k g3 => match mutOf x g3, asI k with
  | some (r, xs), some k => match ix xs.length k with | some j => .next ρ (g3.set r (.lst (xs.set j v))) | none => .bad
  | _, _ => .bad := rfl
@[simp] theorem y_for (w : I) (t : Tg) (b : S) : sFor w t b ρ g = onR (w ρ g) ρ fun it g1 => forGo it.get t b (it.n + 1) 0 ρ g1 := rfl
@[simp] theorem wp_fn {n m : Nat} {b : S} {ds : List D} {Q : D → G → Prop} : wp (fn n m b ds g) Q = (ds.length = n ∧ wpS (b (ds.map some ++ List.replicate (m - n) none) g) ⟨fun _ g => Q .non g, Q, fun _ _ => False, fun _ _ => False⟩) := by
  unfold fn
  by_cases hl : ds.length = n
  · rw [if_pos hl]
    cases b (ds.map some ++ List.replicate (m - n) none) g <;> simp [hl]
  · rw [if_neg hl]
    simp [hl]
theorem wpS_imp {r : SR} {k' : Kt} (h : wpS r k') (h1 : ∀ ρ g, k'.nx ρ g → k.nx ρ g) (h2 : ∀ d g, k'.rt d g → k.rt d g) (h3 : ∀ ρ g, k'.bk ρ g → k.bk ρ g) (h4 : ∀ ρ g, k'.ct ρ g → k.ct ρ g) : wpS r k := by
  cases r with
  | next ρ g => exact h1 _ _ h
  | ret d g => exact h2 _ _ h
  | brk ρ g => exact h3 _ _ h
  | cont ρ g => exact h4 _ _ h
  | exc e ρ g => exact h
  | bad => exact h
/-! ### loops -/
/-- a loop by an invariant over the items taken; W: what is walked stands -/
theorem for_by {it : Nat → G → Option (Option D)} {ds : List D} {t : Tg} {b : S} (Inv : Nat → Env → G → Prop) (look : ∀ i ρ g, Inv i ρ g → it i g = some ds[i]?)
    (step : ∀ i d ρ g, ds[i]? = some d → Inv i ρ g → ∃ ρ1, t d ρ = some ρ1 ∧ wpS (b ρ1 g) ⟨Inv (i + 1), k.rt, k.nx, Inv (i + 1)⟩)
    (done : ∀ ρ g, Inv ds.length ρ g → k.nx ρ g) : ∀ n i ρ g, n + i = ds.length + 1 → i ≤ ds.length → Inv i ρ g → wpS (forGo it t b n i ρ g) k := by
  intro n
  induction n with
  | zero => intro i ρ g h hi inv; omega
  | succ n ih =>
    intro i ρ g h hi inv
    unfold forGo
    rw [look i ρ g inv]
    cases hd : ds[i]? with
    | none =>
      have : i = ds.length := by have := List.getElem?_eq_none_iff.mp hd; omega
      subst this
      exact done ρ g inv
    | some d =>
      obtain ⟨ρ1, e, q⟩ := step i d ρ g hd inv
      have hl := (List.getElem?_eq_some_iff.mp hd).1
      dsimp only
      rw [e]
      dsimp only
      cases hb : b ρ1 g with
      | next ρ2 g2 => rw [hb] at q; exact ih (i + 1) ρ2 g2 (by omega) (by omega) q
      | cont ρ2 g2 => rw [hb] at q; exact ih (i + 1) ρ2 g2 (by omega) (by omega) q
      | brk ρ2 g2 => rw [hb] at q; exact q
      | ret d2 g2 => rw [hb] at q; exact q
      | exc e ρ2 g2 => rw [hb] at q; exact q
      | bad => rw [hb] at q; exact q
theorem for_itL {ds : List D} {t : Tg} {b : S} (Inv : Nat → Env → G → Prop) (start : Inv 0 ρ g)
    (step : ∀ i d ρ g, ds[i]? = some d → Inv i ρ g → ∃ ρ1, t d ρ = some ρ1 ∧ wpS (b ρ1 g) ⟨Inv (i + 1), k.rt, k.nx, Inv (i + 1)⟩)
    (done : ∀ ρ g, Inv ds.length ρ g → k.nx ρ g) : wpS (forGo (itL ds).get t b ((itL ds).n + 1) 0 ρ g) k :=
  for_by Inv (fun _ _ _ _ => rfl) step done _ 0 ρ g rfl (Nat.zero_le _) start
theorem for_itR {r : Nat} {ds : List D} {t : Tg} {b : S} (Inv : Nat → Env → G → Prop) (start : Inv 0 ρ g) (look : ∀ i ρ g, Inv i ρ g → lstOf (.ref r) g = some ds)
    (step : ∀ i d ρ g, ds[i]? = some d → Inv i ρ g → ∃ ρ1, t d ρ = some ρ1 ∧ wpS (b ρ1 g) ⟨Inv (i + 1), k.rt, k.nx, Inv (i + 1)⟩)
    (done : ∀ ρ g, Inv ds.length ρ g → k.nx ρ g) : wpS (forGo (itR r ds.length).get t b ((itR r ds.length).n + 1) 0 ρ g) k :=
  for_by Inv (fun i ρ g inv => by show (lstOf (.ref r) g).map (fun xs => xs[i]?) = _; rw [look i ρ g inv]; rfl) step done _ 0 ρ g rfl (Nat.zero_le _) start
/-- a comprehension by an invariant over the items taken and the list so far (it stands at r) -/
theorem lc_by {it : Nat → G → Option (Option D)} {ds : List D} {t : Tg} {c : T} {e : M} {r : Nat} {Q : D → G → Prop} (Inv : Nat → List D → G → Prop) (look : ∀ i acc g, Inv i acc g → it i g = some ds[i]?) (at_ : ∀ i acc g, Inv i acc g → g[r]? = some (.lst acc))
    (step : ∀ i d acc g, ds[i]? = some d → Inv i acc g → ∃ ρ1, t d ρ = some ρ1 ∧ wp (c ρ1 g) fun b g1 => if b then wp (e ρ1 g1) fun y g2 => ∃ xs, g2[r]? = some (.lst xs) ∧ xs.length < LINE ∧ Inv (i + 1) (xs ++ [y]) (g2.set r (.lst (xs ++ [y]))) else Inv (i + 1) acc g1)
    (done : ∀ acc g, Inv ds.length acc g → Q (.ref r) g) : ∀ n i acc g, n + i = ds.length + 1 → i ≤ ds.length → Inv i acc g → wp (lcGo it t c e ρ r n i g) Q := by
  intro n
  induction n with
  | zero => intro i acc g h hi inv; omega
  | succ n ih =>
    intro i acc g h hi inv
    unfold lcGo
    rw [look i acc g inv]
    cases hd : ds[i]? with
    | none =>
      have : i = ds.length := by have := List.getElem?_eq_none_iff.mp hd; omega
      subst this
      exact done acc g inv
    | some d =>
      obtain ⟨ρ1, e1, q⟩ := step i d acc g hd inv
      have hl := (List.getElem?_eq_some_iff.mp hd).1
      dsimp only
      rw [e1]
      dsimp only
      cases hc : c ρ1 g with
      | exc e g2 => rw [hc] at q; exact q
      | bad => rw [hc] at q; exact q
      | ok b g1 =>
        rw [hc, wp_ok] at q
        cases b with
        | false => exact ih (i + 1) acc g1 (by omega) (by omega) q
        | true =>
          rw [if_pos rfl] at q
          dsimp only
          cases he : e ρ1 g1 with
          | exc e g2 => rw [he] at q; exact q
          | bad => rw [he] at q; exact q
          | ok y g2 =>
            rw [he, wp_ok] at q
            obtain ⟨xs, h1, h2, h3⟩ := q
            dsimp only
            rw [mutOf_lst h1]
            dsimp only
            rw [if_pos h2]
            exact ih (i + 1) _ _ (by omega) (by omega) h3
end
end Py
end

section
set_option autoImplicit false
set_option linter.all false
/-! Views, stores that grow. -/
namespace Py
theorem view_inv {g : G} {n : Nat} {v : D} {p : P} (h : view g n v = some p) : (v = .non ∧ p = .non) ∨ (∃ b, v = .bl b ∧ p = .bl b) ∨ (∃ i, v = .int i ∧ p = .int i) ∨ (∃ s, v = .str s ∧ p = .str s) ∨
    (∃ m ds ps, n = m + 1 ∧ v = .tup ds ∧ p = .tup ps ∧ viewL (view g m) ds = some ps) ∨ (∃ m r xs ps, n = m + 1 ∧ v = .ref r ∧ lstOf (.ref r) g = some xs ∧ p = .lst ps ∧ viewL (view g m) xs = some ps) := by
  cases v with
  | adr _ => simp [view] at h
  | non => simp [view] at h; simp [h]
  | bl b => simp [view] at h; simp [h]
  | int i => simp [view] at h; simp [h]
  | str s => simp [view] at h; simp [h]
  | tup ds =>
    cases n with
    | zero => simp [view] at h
    | succ n =>
      simp only [view, Option.map_eq_some_iff] at h
      obtain ⟨ps, h1, rfl⟩ := h
      exact .inr (.inr (.inr (.inr (.inl ⟨n, ds, ps, rfl, rfl, rfl, h1⟩))))
  | ref r =>
    cases n with
    | zero => simp [view] at h
    | succ n =>
      simp only [view] at h
      split at h
      · rename_i xs hx
        simp only [Option.map_eq_some_iff] at h
        obtain ⟨ps, h1, rfl⟩ := h
        exact .inr (.inr (.inr (.inr (.inr ⟨n, r, xs, ps, rfl, rfl, hx, rfl, h1⟩))))
      · cases h
theorem small_int {i : Int} (h0 : -1000000000000 ≤ i) (h : i ≤ 1000000000000) : -SMALL ≤ i ∧ i < SMALL := by rw [SMALL_is]; omega
theorem viewL_cons {f : D → Option P} {d : D} {ds : List D} {ps : List P} : viewL f (d :: ds) = some ps ↔ ∃ p qs, ps = p :: qs ∧ f d = some p ∧ viewL f ds = some qs := by
  constructor
  · intro h
    unfold viewL at h
    split at h
    · rename_i p qs h1 h2; cases h; exact ⟨p, qs, rfl, h1, h2⟩
    · cases h
  · rintro ⟨p, qs, rfl, h1, h2⟩
    unfold viewL
    rw [h1, h2]
theorem viewL_nil {f : D → Option P} {ps : List P} : viewL f [] = some ps ↔ ps = [] := by
  unfold viewL
  exact ⟨fun h => by cases h; rfl, fun h => by rw [h]⟩
theorem viewL_len {f : D → Option P} : ∀ {ds : List D} {ps : List P}, viewL f ds = some ps → ps.length = ds.length
  | [], ps, h => by rw [viewL_nil.mp h]; rfl
  | d :: ds, ps, h => by
    obtain ⟨p, qs, rfl, _, h2⟩ := viewL_cons.mp h
    simp [viewL_len h2]
theorem viewL_get {f : D → Option P} : ∀ {ds : List D} {ps : List P} {i : Nat} {d : D}, viewL f ds = some ps → ds[i]? = some d → ∃ p, ps[i]? = some p ∧ f d = some p
  | [], ps, i, d, h, e => by simp at e
  | x :: ds, ps, 0, d, h, e => by
    obtain ⟨p, qs, rfl, h1, h2⟩ := viewL_cons.mp h
    simp at e; subst e
    exact ⟨p, rfl, h1⟩
  | x :: ds, ps, i + 1, d, h, e => by
    obtain ⟨p, qs, rfl, h1, h2⟩ := viewL_cons.mp h
    obtain ⟨q, a, b⟩ := viewL_get (i := i) h2 (by simpa using e)
    exact ⟨q, by simpa using a, b⟩
theorem viewL_mono {f f' : D → Option P} (hf : ∀ d p, f d = some p → f' d = some p) : ∀ {ds : List D} {ps : List P}, viewL f ds = some ps → viewL f' ds = some ps
  | [], ps, h => h
  | d :: ds, ps, h => by
    obtain ⟨p, qs, rfl, h1, h2⟩ := viewL_cons.mp h
    exact viewL_cons.mpr ⟨p, qs, rfl, hf d p h1, viewL_mono hf h2⟩
theorem viewL_append {f : D → Option P} : ∀ {ds es : List D} {ps qs : List P}, viewL f ds = some ps → viewL f es = some qs → viewL f (ds ++ es) = some (ps ++ qs)
  | [], es, ps, qs, h, h' => by rw [viewL_nil.mp h]; exact h'
  | d :: ds, es, ps, qs, h, h' => by
    obtain ⟨p, qs', rfl, h1, h2⟩ := viewL_cons.mp h
    exact viewL_cons.mpr ⟨p, qs' ++ qs, rfl, h1, viewL_append h2 h'⟩
/-- what stood still stands -/
def Stay (g g' : G) : Prop := ∀ (i : Nat) (o : O), g[i]? = some o → g'[i]? = some o
theorem Stay.refl (g : G) : Stay g g := fun _ _ h => h
theorem Stay.trans {a b c : G} (x : Stay a b) (y : Stay b c) : Stay a c := fun i o h => y i o (x i o h)
theorem Stay.snoc (g : G) (o : O) : Stay g (g ++ [o]) := fun i x h => by rw [List.getElem?_append_left (List.getElem?_eq_some_iff.mp h).1]; exact h
theorem Stay.lst {g g' : G} (x : Stay g g') {d : D} {xs : List D} (h : lstOf d g = some xs) : lstOf d g' = some xs := by
  cases d with
  | ref r =>
    unfold lstOf at h ⊢
    dsimp only at h ⊢
    split at h
    · rename_i e; rw [x r _ e]; exact h
    · rename_i e; rw [x r _ e]; exact h
    · cases h
  | _ => cases h
theorem Stay.view {g g' : G} (x : Stay g g') : ∀ {n : Nat} {v : D} {p : P}, view g n v = some p → view g' n v = some p := by
  intro n
  induction n with
  | zero => intro v p h; cases v <;> simp [Py.view] at h ⊢ <;> exact h
  | succ n ih =>
    intro v p h
    rcases view_inv h with ⟨rfl, rfl⟩ | ⟨b, rfl, rfl⟩ | ⟨b, rfl, rfl⟩ | ⟨b, rfl, rfl⟩ | ⟨m, ds, ps, e, rfl, rfl, h1⟩ | ⟨m, r, xs, ps, e, rfl, hx, rfl, h1⟩
    · simp [Py.view]
    · simp [Py.view]
    · simp [Py.view]
    · simp [Py.view]
    · cases e; simp only [Py.view]; rw [viewL_mono (fun d p => ih) h1]; rfl
    · cases e; simp only [Py.view]; rw [x.lst hx]; dsimp only; rw [viewL_mono (fun d p => ih) h1]; rfl
theorem view_up {g : G} : ∀ {n m : Nat} {v : D} {p : P}, n ≤ m → view g n v = some p → view g m v = some p := by
  intro n
  induction n with
  | zero => intro m v p hm h; cases v <;> simp [Py.view] at h ⊢ <;> exact h
  | succ n ih =>
    intro m v p hm h
    obtain ⟨m, rfl⟩ : ∃ k, m = k + 1 := ⟨m - 1, by omega⟩
    rcases view_inv h with ⟨rfl, rfl⟩ | ⟨b, rfl, rfl⟩ | ⟨b, rfl, rfl⟩ | ⟨b, rfl, rfl⟩ | ⟨k, ds, ps, e, rfl, rfl, h1⟩ | ⟨k, r, xs, ps, e, rfl, hx, rfl, h1⟩
    · simp [Py.view]
    · simp [Py.view]
    · simp [Py.view]
    · simp [Py.view]
    · cases e; simp only [Py.view]; rw [viewL_mono (fun d p => ih (by omega)) h1]; rfl
    · cases e; simp only [Py.view]; rw [hx]; dsimp only; rw [viewL_mono (fun d p => ih (by omega)) h1]; rfl
/-- of what stood only ws may be written -/
structure Only (ws : List Nat) (g g' : G) : Prop where
  len : g.length ≤ g'.length
  keep : ∀ i : Nat, i < g.length → i ∉ ws → g'[i]? = g[i]?
section
variable {ws : List Nat} {a b c g g' : G}
theorem Only.refl (ws : List Nat) (g : G) : Only ws g g := ⟨Nat.le_refl _, fun _ _ _ => rfl⟩
theorem Only.trans (x : Only ws a b) (y : Only ws b c) : Only ws a c := ⟨Nat.le_trans x.len y.len, fun i h hw => (y.keep i (Nat.lt_of_lt_of_le h x.len) hw).trans (x.keep i h hw)⟩
theorem Only.mono {us : List Nat} (x : Only ws a b) (h : ∀ i ∈ ws, i ∈ us ∨ a.length ≤ i) : Only us a b := ⟨x.len, fun i hi hu => x.keep i hi fun hw => by
  rcases h i hw with z | z
  · exact hu z
  · omega⟩
/-- behind a step that may write us, the new ones too -/
theorem Only.then {us : List Nat} (x : Only ws a b) (y : Only us b c) (h : ∀ i ∈ us, i ∈ ws ∨ a.length ≤ i) : Only ws a c := ⟨Nat.le_trans x.len y.len, fun i hi hw => (y.keep i (Nat.lt_of_lt_of_le hi x.len) fun hu => by
  rcases h i hu with z | z
  · exact hw z
  · omega).trans (x.keep i hi hw)⟩
theorem Only.snoc (ws : List Nat) (g : G) (o : O) : Only ws g (g ++ [o]) := ⟨by simp, fun i h _ => List.getElem?_append_left h⟩
theorem Only.set {r : Nat} (h : r ∈ ws ∨ g.length ≤ r) (o : O) : Only ws g (g.set r o) := ⟨by simp, fun i hi hw => by
  by_cases e : r = i
  · subst e; rcases h with z | z
    · exact absurd z hw
    · omega
  · exact List.getElem?_set_ne e⟩
theorem Only.ext (x : Only [] g g') : Stay g g' := fun i o h => by rw [x.keep i (List.getElem?_eq_some_iff.mp h).1 (by simp)]; exact h
theorem Only.get {i : Nat} {o : O} (x : Only ws g g') (h : g[i]? = some o) (hw : i ∉ ws) : g'[i]? = some o := by rw [x.keep i (List.getElem?_eq_some_iff.mp h).1 hw]; exact h
theorem Only.lst {r : Nat} {xs : List D} (x : Only ws g g') (h : lstOf (.ref r) g = some xs) (hw : r ∉ ws) : lstOf (.ref r) g' = some xs := by
  unfold lstOf at h ⊢
  dsimp only at h ⊢
  split at h
  · rename_i e; rw [x.get e hw]; exact h
  · rename_i e; rw [x.get e hw]; exact h
  · cases h
theorem get_snoc (g : G) (o : O) : (g ++ [o])[g.length]? = some o := by simp
end
/-- a value's references all lie elsewhere than at ws -/
theorem eq_ok {α : Type} {r : R α} {a : α} {g : G} (h : wp r fun x g' => x = a ∧ g' = g) : r = .ok a g := by
  cases r with
  | ok x g' => obtain ⟨rfl, rfl⟩ := h; rfl
  | exc e g => exact h.elim
  | bad => exact h.elim
theorem wp_of {α : Type} {r : R α} {a : α} {g : G} {Q : α → G → Prop} (h : r = .ok a g) (q : Q a g) : wp r Q := by rw [h]; exact q
/-- a loop that looks at each item and leaves with False at the first bad one; the store stays -/
theorem look_all {ds : List D} {good : D → Bool} {i : Nat} {b : S} {ρ : Env} {g : G} {k : Kt}
    (turn : ∀ d, d ∈ ds → wpS (b (ρ.set i (some d)) g) ⟨fun ρ' g' => good d = true ∧ g' = g ∧ ρ' = ρ.set i (some d), fun x g' => good d = false ∧ x = .bl false ∧ g' = g, fun _ _ => False, fun ρ' g' => good d = true ∧ g' = g ∧ ρ' = ρ.set i (some d)⟩)
    (all : ds.all good = true → ∀ ρ', (ρ' = ρ ∨ ∃ d, ρ' = ρ.set i (some d)) → k.nx ρ' g) (bad : ds.all good = false → k.rt (.bl false) g) : wpS (forGo (itL ds).get (gName i) b ((itL ds).n + 1) 0 ρ g) k := by
  refine for_itL (fun j ρ' g' => g' = g ∧ (ρ' = ρ ∨ ∃ d, ρ' = ρ.set i (some d)) ∧ (ds.take j).all good = true) ⟨rfl, .inl rfl, by simp⟩ ?_ ?_
  · rintro j d ρ1 _ hd ⟨rfl, hρ, hg⟩
    have e : ρ1.set i (some d) = ρ.set i (some d) := by
      rcases hρ with rfl | ⟨d', rfl⟩
      · rfl
      · rw [List.set_set]
    refine ⟨ρ.set i (some d), by rw [← e]; rfl, wpS_imp (turn d (List.mem_of_getElem? hd)) ?_ ?_ (fun _ _ h => h.elim) ?_⟩
    · rintro ρ' g' ⟨h1, rfl, rfl⟩
      refine ⟨rfl, .inr ⟨d, rfl⟩, ?_⟩
      rw [List.take_add_one, hd]
      simp only [Option.toList_some, List.all_append, hg, List.all_cons, h1, List.all_nil, Bool.and_self]
    · rintro x g' ⟨h1, rfl, rfl⟩
      refine bad ?_
      rw [List.all_eq_false]
      exact ⟨d, List.mem_of_getElem? hd, by simp [h1]⟩
    · rintro ρ' g' ⟨h1, rfl, rfl⟩
      refine ⟨rfl, .inr ⟨d, rfl⟩, ?_⟩
      rw [List.take_add_one, hd]
      simp only [Option.toList_some, List.all_append, hg, List.all_cons, h1, List.all_nil, Bool.and_self]
  · rintro ρ' _ ⟨rfl, hρ, hg⟩
    rw [List.take_length] at hg
    exact all hg ρ' hρ
end Py
end

section
set_option autoImplicit false
set_option linter.all false
/-! Views that keep away from some places. -/
namespace Py
/-- as view; the places ws are not looked at -/
def vx (ws : List Nat) (g : G) : Nat → D → Option P
  | _, .non => some .non
  | _, .bl b => some (.bl b)
  | _, .int i => some (.int i)
  | _, .str s => some (.str s)
  | _, .adr _ => none
  | 0, .tup _ => none
  | 0, .ref _ => none
  | n + 1, .tup ds => (viewL (vx ws g n) ds).map .tup
  | n + 1, .ref r => if r ∈ ws then none else match lstOf (.ref r) g with | some xs => (viewL (vx ws g n) xs).map .lst | none => none
theorem vx_inv {ws : List Nat} {g : G} {n : Nat} {v : D} {p : P} (h : vx ws g n v = some p) : (v = .non ∧ p = .non) ∨ (∃ b, v = .bl b ∧ p = .bl b) ∨ (∃ i, v = .int i ∧ p = .int i) ∨ (∃ s, v = .str s ∧ p = .str s) ∨
    (∃ m ds ps, n = m + 1 ∧ v = .tup ds ∧ p = .tup ps ∧ viewL (vx ws g m) ds = some ps) ∨ (∃ m r xs ps, n = m + 1 ∧ v = .ref r ∧ r ∉ ws ∧ lstOf (.ref r) g = some xs ∧ p = .lst ps ∧ viewL (vx ws g m) xs = some ps) := by
  cases v with
  | adr _ => simp [vx] at h
  | non => simp [vx] at h; simp [h]
  | bl b => simp [vx] at h; simp [h]
  | int i => simp [vx] at h; simp [h]
  | str s => simp [vx] at h; simp [h]
  | tup ds =>
    cases n with
    | zero => simp [vx] at h
    | succ n =>
      simp only [vx, Option.map_eq_some_iff] at h
      obtain ⟨ps, h1, rfl⟩ := h
      exact .inr (.inr (.inr (.inr (.inl ⟨n, ds, ps, rfl, rfl, rfl, h1⟩))))
  | ref r =>
    cases n with
    | zero => simp [vx] at h
    | succ n =>
      simp only [vx] at h
      split at h
      · cases h
      rename_i hr
      split at h
      · rename_i xs hx
        simp only [Option.map_eq_some_iff] at h
        obtain ⟨ps, h1, rfl⟩ := h
        exact .inr (.inr (.inr (.inr (.inr ⟨n, r, xs, ps, rfl, rfl, hr, hx, rfl, h1⟩))))
      · cases h
theorem lstOf_len {g : G} {r : Nat} {xs : List D} (h : lstOf (.ref r) g = some xs) : r < g.length := by
  by_cases hr : r < g.length
  · exact hr
  · unfold lstOf at h
    dsimp only at h
    rw [List.getElem?_eq_none (by omega)] at h
    cases h
section
variable {ws us : List Nat} {g g' : G}
theorem vx_tup {n : Nat} {ds : List D} {ps : List P} (h : viewL (vx ws g n) ds = some ps) : vx ws g (n + 1) (.tup ds) = some (.tup ps) := by simp only [vx]; rw [h]; rfl
theorem vx_lst {n r : Nat} {ds : List D} {ps : List P} (hr : r ∉ ws) (h' : lstOf (.ref r) g = some ds) (h : viewL (vx ws g n) ds = some ps) : vx ws g (n + 1) (.ref r) = some (.lst ps) := by simp only [vx]; rw [if_neg hr, h']; dsimp only; rw [h]; rfl
/-- what was not looked at may be written; fresh places are never looked at -/
theorem vx_go (o : Only us g g') (hu : ∀ i ∈ us, i ∈ ws ∨ g.length ≤ i) {vs : List Nat} (hv : ∀ i ∈ vs, i ∈ ws ∨ g.length ≤ i) : ∀ {n : Nat} {v : D} {p : P}, vx ws g n v = some p → vx vs g' n v = some p := by
  intro n
  induction n with
  | zero => intro v p h; cases v <;> simp [vx] at h ⊢ <;> exact h
  | succ n ih =>
    intro v p h
    rcases vx_inv h with ⟨rfl, rfl⟩ | ⟨b, rfl, rfl⟩ | ⟨b, rfl, rfl⟩ | ⟨b, rfl, rfl⟩ | ⟨m, ds, ps, e, rfl, rfl, h1⟩ | ⟨m, r, xs, ps, e, rfl, hr, hx, rfl, h1⟩
    · simp [vx]
    · simp [vx]
    · simp [vx]
    · simp [vx]
    · cases e; exact vx_tup (viewL_mono (fun d p => ih) h1)
    · cases e
      have hl := lstOf_len hx
      refine vx_lst (fun hm => ?_) (o.lst hx fun hm => ?_) (viewL_mono (fun d p => ih) h1)
      · rcases hv _ hm with z | z
        · exact hr z
        · omega
      · rcases hu _ hm with z | z
        · exact hr z
        · omega
theorem vx_view : ∀ {n : Nat} {v : D} {p : P}, vx ws g n v = some p → view g n v = some p := by
  intro n
  induction n with
  | zero => intro v p h; cases v <;> simp [vx, view] at h ⊢ <;> exact h
  | succ n ih =>
    intro v p h
    rcases vx_inv h with ⟨rfl, rfl⟩ | ⟨b, rfl, rfl⟩ | ⟨b, rfl, rfl⟩ | ⟨b, rfl, rfl⟩ | ⟨m, ds, ps, e, rfl, rfl, h1⟩ | ⟨m, r, xs, ps, e, rfl, hr, hx, rfl, h1⟩
    · simp [view]
    · simp [view]
    · simp [view]
    · simp [view]
    · cases e; simp only [view]; rw [viewL_mono (fun d p => ih) h1]; rfl
    · cases e; simp only [view]; rw [hx]; dsimp only; rw [viewL_mono (fun d p => ih) h1]; rfl
theorem view_vx : ∀ {n : Nat} {v : D} {p : P}, view g n v = some p → vx [] g n v = some p := by
  intro n
  induction n with
  | zero => intro v p h; cases v <;> simp [vx, view] at h ⊢ <;> exact h
  | succ n ih =>
    intro v p h
    rcases view_inv h with ⟨rfl, rfl⟩ | ⟨b, rfl, rfl⟩ | ⟨b, rfl, rfl⟩ | ⟨b, rfl, rfl⟩ | ⟨m, ds, ps, e, rfl, rfl, h1⟩ | ⟨m, r, xs, ps, e, rfl, hx, rfl, h1⟩
    · simp [vx]
    · simp [vx]
    · simp [vx]
    · simp [vx]
    · cases e; exact vx_tup (viewL_mono (fun d p => ih) h1)
    · cases e; exact vx_lst (by simp) hx (viewL_mono (fun d p => ih) h1)
/-- a value without objects -/
theorem vx_free {n : Nat} {v : D} {p : P} (h : view [] n v = some p) : vx ws g n v = some p :=
  vx_go (us := []) ⟨Nat.zero_le _, fun i hi => by simp at hi⟩ (by simp) (by simp) (view_vx h)
theorem vx_up : ∀ {n m : Nat} {v : D} {p : P}, n ≤ m → vx ws g n v = some p → vx ws g m v = some p := by
  intro n
  induction n with
  | zero => intro m v p hm h; cases v <;> simp [vx] at h ⊢ <;> exact h
  | succ n ih =>
    intro m v p hm h
    obtain ⟨m, rfl⟩ : ∃ k, m = k + 1 := ⟨m - 1, by omega⟩
    rcases vx_inv h with ⟨rfl, rfl⟩ | ⟨b, rfl, rfl⟩ | ⟨b, rfl, rfl⟩ | ⟨b, rfl, rfl⟩ | ⟨k, ds, ps, e, rfl, rfl, h1⟩ | ⟨k, r, xs, ps, e, rfl, hr, hx, rfl, h1⟩
    · simp [vx]
    · simp [vx]
    · simp [vx]
    · simp [vx]
    · cases e; exact vx_tup (viewL_mono (fun d p => ih (by omega)) h1)
    · cases e; exact vx_lst hr hx (viewL_mono (fun d p => ih (by omega)) h1)
theorem viewL_ex {f : D → Option P} : ∀ {ds : List D}, (∀ d ∈ ds, ∃ p, f d = some p) → ∃ ps, viewL f ds = some ps
  | [], _ => ⟨[], rfl⟩
  | d :: ds, h => by
    obtain ⟨p, hp⟩ := h d (by simp)
    obtain ⟨ps, hps⟩ := viewL_ex (ds := ds) fun x hx => h x (by simp [hx])
    exact ⟨p :: ps, viewL_cons.mpr ⟨p, ps, rfl, hp, hps⟩⟩
theorem viewL_mem {f : D → Option P} {ds : List D} {ps : List P} {d : D} (h : viewL f ds = some ps) (hd : d ∈ ds) : ∃ p ∈ ps, f d = some p := by
  obtain ⟨i, hi⟩ := List.mem_iff_getElem?.mp hd
  obtain ⟨p, h1, h2⟩ := viewL_get h hi
  exact ⟨p, List.mem_of_getElem? h1, h2⟩
theorem viewL_memP {f : D → Option P} {ds : List D} {ps : List P} {p : P} (h : viewL f ds = some ps) (hp : p ∈ ps) : ∃ d ∈ ds, f d = some p := by
  obtain ⟨i, hi⟩ := List.mem_iff_getElem?.mp hp
  have hl := viewL_len h
  have h1 := (List.getElem?_eq_some_iff.mp hi).1
  obtain ⟨q, h2, h3⟩ := viewL_get h (List.getElem?_eq_getElem (l := ds) (i := i) (by omega))
  rw [hi] at h2
  cases h2
  exact ⟨_, List.getElem_mem _, h3⟩
theorem viewL_snoc {f : D → Option P} {ds : List D} {ps : List P} {d : D} {p : P} (h : viewL f ds = some ps) (hd : f d = some p) : viewL f (ds ++ [d]) = some (ps ++ [p]) :=
  viewL_append h (viewL_cons.mpr ⟨p, [], rfl, hd, rfl⟩)
end
end Py
end

section
set_option autoImplicit false
set_option linter.all false
/-! Reasoning about exceptions. -/
namespace Py
section
variable {α : Type} {ρ : Env} {g g0 : G} {fs : List (String × D)} {cl : String → Option Bool} {i r a b : Nat} {e : Exc}
theorem ret_of {s : SR} {d : D} (h : wpS s ⟨fun _ _ => False, fun d' g' => d' = d ∧ g' = g, fun _ _ => False, fun _ _ => False⟩) : s = .ret d g := by
  cases s <;> first | exact h.elim | (obtain ⟨rfl, rfl⟩ := h; rfl)
theorem try_exc {body : S} {su : Exc → Nat → Nat → S} {ρ1 : Env} {g1 : G} {s : SR} (hb : body ρ g = .exc e ρ1 g1) (hc : cl e.cls = some true)
    (hs : ∀ a b, (su e a b (ρ1.set i (some (.adr a))) (pinX e.at_ b g1)).clean i e.at_ = s) : sTryAs body cl i su ρ g = s := by
  unfold sTryAs
  rw [hb]
  dsimp only
  rw [hc]
  dsimp only
  exact same_for_eq hs
theorem try_next {body : S} {su : Exc → Nat → Nat → S} {ρ1 : Env} {g1 : G} (hb : body ρ g = .next ρ1 g1) : sTryAs body cl i su ρ g = .next ρ1 g1 := by
  unfold sTryAs
  rw [hb]
@[simp] theorem pin_last : pinX (some g0.length) b (g0 ++ [.xd fs]) = g0 ++ [.xda b fs] := by simp [pinX]
@[simp] theorem unpin_last : unpinX (some g0.length) (g0 ++ [.xda b fs]) = g0 ++ [.xd fs] := by simp [unpinX]
/-- a try around x = f(..) whose call raised, the suite answering at once: fields at the store's end -/
theorem try_ret {body : S} {su : Exc → Nat → Nat → S} {c : String} {d : D} (hb : body ρ g = .exc ⟨c, some g0.length⟩ ρ (g0 ++ [.xd fs])) (hc : cl c = some true)
    (hs : ∀ a b, wpS (su ⟨c, some g0.length⟩ a b (ρ.set i (some (.adr a))) (g0 ++ [.xda b fs])) ⟨fun _ _ => False, fun d' g' => d' = d ∧ g' = g0 ++ [.xda b fs], fun _ _ => False, fun _ _ => False⟩) :
    sTryAs body cl i su ρ g = .ret d (g0 ++ [.xd fs]) := by
  refine try_exc hb hc fun a b => ?_
  have := ret_of (hs a b)
  simp only [pin_last]
  rw [this]
  simp [SR.clean]
theorem isE_at (h : ρ[i]? = some (some (.adr a))) {c : String} : mIsE cl i ⟨c, some g0.length⟩ a b ρ (g0 ++ [.xda b fs]) = ofP ((cl c).map .bl) (g0 ++ [.xda b fs]) := by
  unfold mIsE
  rw [h]
  simp
theorem fldE_at (h : ρ[i]? = some (some (.adr a))) {c f : String} {cs : List String} (hc : cs.contains c = true) : mFldC cs f i ⟨c, some g0.length⟩ a b ρ (g0 ++ [.xda b fs]) = ofP (fs.lookup f) (g0 ++ [.xda b fs]) := by
  unfold mFldC mFldE
  rw [if_pos hc, h]
  simp
/-- what a call may do: answer; raise -/
theorem asg_next {m : M} {t : Tg} {d : D} {g1 : G} {ρ1 : Env} (h : m ρ g = .ok d g1) (ht : t d ρ = some ρ1) : sAsg m t ρ g = .next ρ1 g1 := by
  unfold sAsg onR
  rw [h]
  dsimp only
  rw [ht]
theorem asg_exc {m : M} {t : Tg} {g1 : G} (h : m ρ g = .exc e g1) : sAsg m t ρ g = .exc e ρ g1 := by
  unfold sAsg onR
  rw [h]
theorem seq_next {s t : S} {ρ1 : Env} {g1 : G} (h : s ρ g = .next ρ1 g1) : sSeq s t ρ g = t ρ1 g1 := by
  unfold sSeq
  rw [h]
theorem seq_exc {s t : S} {ρ1 : Env} {g1 : G} (h : s ρ g = .exc e ρ1 g1) : sSeq s t ρ g = .exc e ρ1 g1 := by
  unfold sSeq
  rw [h]
theorem seq_ret {s t : S} {d : D} {g1 : G} (h : s ρ g = .ret d g1) : sSeq s t ρ g = .ret d g1 := by
  unfold sSeq
  rw [h]
theorem wp_ok_of {r : R α} {Q : α → G → Prop} (h : wp r Q) : ∃ x g', r = .ok x g' ∧ Q x g' := by
  cases r with
  | ok x g' => exact ⟨x, g', rfl, h⟩
  | exc _ _ => exact h.elim
  | bad => exact h.elim
/-- what a comprehension keeps of its items -/
def filmap (keep : Nat → D → Option D) : Nat → List D → List D
  | _, [] => []
  | i, d :: r => match keep i d with | some y => y :: filmap keep (i + 1) r | none => filmap keep (i + 1) r
/-- a comprehension that only looks -/
theorem lc_fil {it : Nat → G → Option (Option D)} {ds : List D} {t : Tg} {c : T} {e : M} (keep : Nat → D → Option D) (look : ∀ i acc, it i (g0 ++ [.lst acc]) = some ds[i]?) (hl : ds.length < LINE)
    (step : ∀ i d acc, ds[i]? = some d → ∃ ρ1, t d ρ = some ρ1 ∧ wp (c ρ1 (g0 ++ [.lst acc])) fun q g1 => g1 = g0 ++ [.lst acc] ∧ q = (keep i d).isSome ∧ (q = true → wp (e ρ1 (g0 ++ [.lst acc])) fun y g2 => g2 = g0 ++ [.lst acc] ∧ keep i d = some y)) :
    lcGo it t c e ρ g0.length (ds.length + 1) 0 (g0 ++ [.lst []]) = .ok (.ref g0.length) (g0 ++ [.lst (filmap keep 0 ds)]) := by
  apply eq_ok
  refine lc_by (fun i acc g => g = g0 ++ [.lst acc] ∧ acc ++ filmap keep i (ds.drop i) = filmap keep 0 ds ∧ acc.length ≤ i) (fun i acc g h => by rw [h.1]; exact look i acc) (fun i acc g h => by rw [h.1]; exact get_snoc _ _) ?_ ?_ _ 0 [] _ rfl (Nat.zero_le _) ⟨rfl, by simp, by simp⟩
  · rintro i d acc _ hd ⟨rfl, h1, h2⟩
    obtain ⟨ρ1, e1, e2⟩ := step i d acc hd
    refine ⟨ρ1, e1, wp_imp e2 ?_⟩
    rintro q _ ⟨rfl, h3, h4⟩
    have hi := (List.getElem?_eq_some_iff.mp hd).1
    have hdr : ds.drop i = d :: ds.drop (i + 1) := by
      rw [List.drop_eq_getElem_cons hi]
      rw [List.getElem?_eq_getElem hi] at hd
      cases hd; rfl
    rw [hdr] at h1
    cases q with
    | true =>
      rw [if_pos rfl]
      refine wp_imp (h4 rfl) ?_
      rintro y _ ⟨rfl, h5⟩
      refine ⟨acc, get_snoc _ _, by omega, by simp, ?_, by simp; omega⟩
      rw [← h1]
      simp [filmap, h5]
    | false =>
      rw [if_neg (by simp)]
      refine ⟨rfl, ?_, by omega⟩
      rw [← h1]
      cases hk : keep i d with
      | some y => rw [hk] at h3; simp at h3
      | none => simp [filmap, hk]
  · rintro acc _ ⟨rfl, h1, h2⟩
    simp [filmap] at h1
    rw [h1]
    exact ⟨rfl, rfl⟩
end
/-- enumerate -/
def pairs : Nat → List D → List D
  | _, [] => []
  | i, d :: r => .tup [.int i, d] :: pairs (i + 1) r
theorem pairs_get : ∀ (ds : List D) (k i : Nat), (pairs k ds)[i]? = ds[i]?.map fun d => .tup [.int ((k + i : Nat) : Int), d]
  | [], k, i => by simp [pairs]
  | d :: r, k, 0 => by simp [pairs]
  | d :: r, k, i + 1 => by
    simp only [pairs, List.getElem?_cons_succ]
    rw [pairs_get r (k + 1) i]
    have : k + 1 + i = k + (i + 1) := by omega
    rw [this]
theorem pairs_len : ∀ (ds : List D) (k : Nat), (pairs k ds).length = ds.length
  | [], _ => rfl
  | d :: r, k => by simp [pairs, pairs_len r]
@[simp] theorem x_enum {a : M} {ρ : Env} {g : G} : iEnum a ρ g = (a ρ g).bind fun x g1 => match x with | .str _ => .bad | x => ofP ((iterOf x g1).map itEn) g1 := rfl
theorem itEn_get (ds : List D) (i : Nat) (g : G) : (itEn (itL ds)).get i g = some (pairs 0 ds)[i]? := by
  rw [pairs_get]
  simp [itEn, itL]
theorem itEn_n (ds : List D) : (itEn (itL ds)).n = (pairs 0 ds).length := by rw [pairs_len]; rfl
end Py
end

section
set_option linter.all false
set_option autoImplicit false
/-! The start: a script. -/
namespace Py
open PySem L2
theorem reps_int {K : PySem.W.Frag} {H : Hp} {ι : List Addr} : ∀ (ns : List Int), Reps K H ι (ns.map .int) (ns.map V.int)
  | [] => .nil
  | i :: r => .cons (.int i) (reps_int r)
theorem frz_only {K : PySem.W.Frag} {H : Hp} {a : Addr} {xs : List V} (hO : L2.Only H) (hS : SqL K H a xs) : FrzL K H a xs := by
  rcases hS with (h | ⟨o, h⟩) | h
  · rcases hO a with e | ⟨o, ys, e⟩
    · rw [e] at h; cases h
    · rw [e] at h; cases h
  · exact .inl ⟨o, h⟩
  · exact .inr h
theorem start_sp {K : PySem.W.Frag} {mg : Str → Option Value} {f : F} {H : Hp} {a : Addr} {is : List Int} (hO : L2.Only H) (hS : SqL K H a (is.map V.int)) (h : wp (f [.ref 0] [.frz (is.map .int)]) fun v _ => v = .bl true) :
    spF K mg 1 f [.ref a] H (fun v _ => v = .bl true) fun _ _ _ => False := by
  refine ⟨[.ref 0], [.frz (is.map .int)], [a], ⟨rfl, ?_, ?_⟩, .cons (.ref rfl) .nil, rfl, ?_⟩
  · intro r o b h1 h2
    cases r with
    | zero =>
      simp at h1 h2
      subst h1 h2
      exact ⟨_, frz_only hO hS, reps_int is⟩
    | succ r => simp at h1
  · intro r r' b xs xs' h1 h2 h3 h4
    cases r with
    | zero => simp at h3
    | succ r => simp at h3
  · cases hf : f [.ref 0] [.frz (is.map .int)] with
    | ok v g =>
      rw [hf, wp_ok] at h
      subst h
      intro H' ι' x s v r
      cases r
      rfl
    | exc e g => rw [hf] at h; exact h.elim
    | bad => rw [hf] at h; exact h.elim
end Py
end

section
set_option autoImplicit false
set_option linter.all false
/-! More of the small semantics: sums, all, any, reversed lists, texts of numbers, repr, while, raise of a bare class, parallel assignment. Plain Lean. -/
namespace Py
def allB : List D → Option (List Bool)
  | [] => some []
  | .bl i :: r => (allB r).map (i :: ·)
  | _ :: _ => none
/-- all(x), any(x), sum(x): x a list -/
def oAll : B1 := fun x g => ((lstOf x g).bind allB).map fun bs => .bl (bs.all id)
def oAny : B1 := fun x g => ((lstOf x g).bind allB).map fun bs => .bl (bs.any id)
def oSum : B1 := fun x g => ((lstOf x g).bind allI).map fun is => .int is.sum
/-- list(reversed(x)), x[::-1], x a list -/
def oRev : N1 := fun x g => (lstOf x g).map fun xs => newL xs.reverse g
/-- str(i) -/
def oStr : B1 := fun x _ => match x with | .int i => if i.natAbs.log2 < 1920 then some (.str (toString i).toList) else none | _ => none
/-- list(range(n)) -/
def oRng : N1 := fun x g => match x with | .int n => if 0 ≤ n ∧ n ≤ LINE then some (newL (rng 0 n.toNat) g) else none | _ => none
/-! ### repr -/
def commas : List (List Char) → List Char
  | [] => []
  | [x] => x
  | x :: y :: r => x ++ [',', ' '] ++ commas (y :: r)
/-- a sign that repr leaves as it is -/
def plainC (c : Char) : Bool := 32 ≤ c.toNat && c.toNat ≤ 126 && c.toNat != 39 && c.toNat != 34 && c.toNat != 92
def tupT (ts : List (List Char)) : List Char := ['('] ++ commas ts ++ (if ts.length == 1 then [',', ')'] else [')'])
def lstT (ts : List (List Char)) : List Char := ['['] ++ commas ts ++ [']']
mutual
def P.shows : P → Option (List Char)
  | .non => some ['N', 'o', 'n', 'e']
  | .bl b => some (if b then ['T', 'r', 'u', 'e'] else ['F', 'a', 'l', 's', 'e'])
  | .int i => if i.natAbs.log2 < 1920 then some (toString i).toList else none
  | .str s => if s.all plainC then some (['\''] ++ s ++ ['\'']) else none
  | .tup ds => (P.showsL ds).map tupT
  | .lst ds => (P.showsL ds).map lstT
  | .scr _ => none
  | .dct _ _ => none
  | .ins _ _ _ => none
def P.showsL : List P → Option (List (List Char))
  | [] => some []
  | p :: r => match P.shows p, P.showsL r with | some s, some t => some (s :: t) | _, _ => none
end
/-- repr(x) -/
def oRepr : B1 := fun x g => (view g 60 x).bind fun p => (P.shows p).bind fun s => if s.length ≤ LINE then some (.str s) else none
/-! ### while -/
def whGo (t : T) (b : S) : Nat → S
  | 0 => fun _ _ => .bad
  | n + 1 => fun ρ g => match t ρ g with
    | .ok true g1 => match b ρ g1 with
      | .next ρ2 g2 => whGo t b n ρ2 g2
      | .cont ρ2 g2 => whGo t b n ρ2 g2
      | .brk ρ2 g2 => .next ρ2 g2
      | r => r
    | .ok false g1 => .next ρ g1
    | .exc e g1 => .exc e ρ g1
    | .bad => .bad
theorem turns_is : ∃ n : Nat, n = 1048576 := ⟨_, rfl⟩
/-- 2^20, kept shut -/
noncomputable def TURNS : Nat := Classical.choose turns_is
theorem TURNS_is : TURNS = 1048576 := Classical.choose_spec turns_is
noncomputable def sWhile (t : T) (b : S) : S := fun ρ g => whGo t b TURNS ρ g
/-- x, y = a, b: both are reckoned first -/
def sPar (a : A) (t : Tgs) : S := fun ρ g => onR (a ρ g) ρ fun ds g1 => match t ds ρ with | some ρ1 => .next ρ1 g1 | none => .bad
/-- x, y = a list -/
def sUnp (e : M) (t : Tgs) : S := fun ρ g => onR (e ρ g) ρ fun d g1 => match lstOf d g1 with
  | some xs => (match t xs ρ with | some ρ1 => .next ρ1 g1 | none => .bad)
  | none => .bad
end Py
end

section
set_option Elab.async false
set_option linter.all false
set_option maxRecDepth 100000
set_option maxHeartbeats 1000000
/-! list(reversed(a list)), at the library's level. -/
namespace PyNa
open PySem PySem.Spec PyProof.Rows RT
section
variable {P : Program} {w : World} {A : Around} {E : Value → Shared → Prop} {s : Shared}
/-- the heap with a new empty list -/
def grown (s : Shared) : Shared := { s with heap := s.heap.push { cls := .type "list", data := .seq #[] } }
theorem grown_get (s : Shared) : (grown s).heap.get? s.heap.objs.size = some { cls := .type "list", data := .seq #[] } := Heap.get?_push_size _ rfl
theorem grown_keep {b : Addr} {o : Obj} (e : s.heap.get? b = some o) : (grown s).heap.get? b = some o := Heap.get?_push_of_some _ e
/-- the items, from behind -/
abbrev Back (its : Array Value) : Nat → Value → Prop := fun i v => its[its.size - 1 - i]? = some v
theorem extend_back {it l S : Addr} {its : Array Value} {c : Nat} {R : Result → Shared → Prop} (hh : A.handled = none) (hit : s.heap.IsRevIter it l ((its.size : Int) - 1)) (hl : s.heap.IsList l its) (hne : l ≠ it) (hn : its.size ≤ sizeLine)
    (hS : s.heap.get? S = some { cls := .type "list", data := .seq #[] c }) (hSi : S ≠ it) (hSl : S ≠ l)
    (hR : ∀ s' acc' c', Moved (S :: [it]) (fun a b => b = a) s s' → s'.heap.get? S = some { cls := .type "list", dict := none, data := .seq acc' c', slots := #[] } → ItemsOf (Back its) acc' its.size → R (.ok (.ret .none)) s') :
    wpAny (model P w) A.in1 (Builtin.List.listExtendWith (.ref S) (.ref it) .none)
      (fun fin s' => match fin with | .done f => R (.ok f) s' | .again c' => c'.quiet = true ∧ codeAny (model P w) A c' R s') (fun e s' => R (.error e) s') s := by
  have W := (Walks.listRev (prog := P) (w := w) (A := A.in1) hh it l hne its).toS
  have out : S ∉ [it, l] := by simp only [List.mem_cons, List.not_mem_nil, or_false, not_or]; exact ⟨hSi, hSl⟩
  have ty : s.TypeIs (.ref it) "list_reverseiterator" := Heap.IsRevIter.typeIs hit
  have ns : Builtin.List.listSameRef (.ref S) (.ref it) = false := by simp [Builtin.List.listSameRef, hSi]
  unfold Builtin.List.listExtendWith; refine wpAny_bind (wpAny_typeOf ty ?_)
  rw [if_neg (by rw [ns]; decide)]; refine wpAny_bind (wpAny_pyIter_revIter hit ?_)
  refine wpAny_bind (wpAny_holding ?_); unfold Builtin.List.listLengthHint
  refine wpAny_bind (wpAny_specialOf ty nolen_lri ?_); show wpAny _ _ (specialOf (Value.ref it) (Str.ofString "__length_hint__") >>= _) _ _ _
  refine wpAny_bind (wpAny_specialOf ty hint_lri ?_); generalize hid : ("list_reverseiterator.__length_hint__" : String) = id0
  wp_delta; rw [show splitId id0 = some ("list_reverseiterator", "__length_hint__") from by subst hid; decide +kernel]; subst hid
  refine wpAny_bind (wpAny_isInstance (b := true) ty (by rw [isSubtype_type]; kernel_rfl) ?_); refine wpAny_pure ?_
  rw [if_neg (by decide)]; have e0 : ((its.size : Nat) : Int) - 1 - ((0 : Nat) : Int) = (its.size : Int) - 1 := by omega
  exact wpAny_pure ⟨plainId_quiet F.plain_extend_loop _, codeAny_extend_loopS W hn S out _ its.size 0 _ _ _ rfl (Nat.zero_le _) ⟨Nat.zero_le _, by rw [e0]; exact hit, hl⟩ hS (ItemsOf.nil _) hR⟩
theorem call_list_back {it l : Addr} {its : Array Value} {Q : Value → Shared → Prop} (hh : A.handled = none) (hit : s.heap.IsRevIter it l ((its.size : Int) - 1)) (hl : s.heap.IsList l its) (hne : l ≠ it) (hn : its.size ≤ sizeLine)
    (hQ : ∀ s' acc c, Moved (s.heap.objs.size :: [it]) (fun a b => b = a) (grown s) s' → s'.heap.get? s.heap.objs.size = some { cls := .type "list", dict := none, data := .seq acc c, slots := #[] } → ItemsOf (Back its) acc its.size → Q (.ref s.heap.objs.size) s') :
    wpAny (model P w) A (call (.type "list") [.ref it]) Q E s := by
  refine callType_codes (Q₁ := fun obj s₁ => obj = .ref s.heap.objs.size ∧ s₁ = grown s) F.called_list (F.typeCall_list_1 _) F.entry_list_init (code_list_new _ ⟨rfl, rfl⟩) fun obj s₁ h₁ => ?_
  obtain ⟨rfl, rfl⟩ := h₁; obtain ⟨oi, hoi, _⟩ := id hit; obtain ⟨ol, hol, _⟩ := id hl
  have hSi : s.heap.objs.size ≠ it := Nat.ne_of_gt (Heap.lt_size hoi); have hSl : s.heap.objs.size ≠ l := Nat.ne_of_gt (Heap.lt_size hol)
  refine ⟨⟨_, grown_get s, rfl⟩, F.args_list_init_2 _ _, ?_⟩
  show wpAny _ A.in1.in1 (Builtin.List.listItems (.ref s.heap.objs.size) >>= fun old => Builtin.List.listUpdate (.ref s.heap.objs.size) (fun _ => #[]) >>= fun _ => letGo old.toList.reverse >>= fun _ => Builtin.List.listExtendWith (.ref s.heap.objs.size) (.ref it) .none) _ _ (grown s)
  refine wpAny_bind ?_; unfold Builtin.List.listItems; refine wpAny_bind (wpAny_seqItems (grown_get s) rfl (wpAny_pure ?_))
  show wpAny _ A.in1.in1 (updateSeq s.heap.objs.size (fun _ => #[]) >>= fun _ => letGo (#[] : Array Value).toList.reverse >>= fun _ => Builtin.List.listExtendWith (.ref s.heap.objs.size) (.ref it) .none) _ _ (grown s)
  refine wpAny_bind (wpAny_updateSeq (grown_get s) rfl ?_); have hS2 := Heap.get?_update_self (Obj.mapSeq (fun _ => (#[] : Array Value))) (grown_get s) rfl
  have oth : ∀ b o, b ≠ s.heap.objs.size → s.heap.get? b = some o → ((grown s).heap.update s.heap.objs.size (Obj.mapSeq (fun _ => (#[] : Array Value)))).get? b = some o := fun b o hb e => (Heap.get?_update_other _ _ (Ne.symm hb)).trans (grown_keep e)
  have hit2 : ((grown s).heap.update s.heap.objs.size (Obj.mapSeq (fun _ => (#[] : Array Value)))).IsRevIter it l ((its.size : Int) - 1) := hit.at fun o e => oth _ _ (Ne.symm hSi) e
  have hl2 : ((grown s).heap.update s.heap.objs.size (Obj.mapSeq (fun _ => (#[] : Array Value)))).IsList l its := hl.at fun o e => oth _ _ (Ne.symm hSl) e
  refine wpAny_bind (wpAny_letGo ?_); refine extend_back (s := { grown s with heap := (grown s).heap.update s.heap.objs.size (Obj.mapSeq (fun _ => (#[] : Array Value))) }) (A := A.in1) hh hit2 hl2 hne hn hS2 hSi hSl fun s' acc' c' hm hS' hacc => ?_
  refine ⟨rfl, hQ s' acc' c' ⟨fun b o hb e => hm.heap b o hb ?_, hm.gens, hm.drawn, hm.os, hm.toks⟩ hS' hacc⟩
  have hbS : b ≠ s.heap.objs.size := fun h => hb (by rw [h]; exact List.mem_cons_self)
  exact (Heap.get?_update_other _ _ hbS.symm).trans e
end
end PyNa
end

section
set_option Elab.async false
set_option linter.all false
set_option maxRecDepth 100000
set_option autoImplicit false
/-! Soundness of sums, all, any, reversed lists, texts of numbers, while, parallel assignment. -/
namespace PyNa
open PySem L2 PyProof.Rows RT
/-- list(reversed(x)), x a list: a new list -/
def tLstRev (K : PySem.W.Frag) (te : TE) : TE := fun σ H Q => te σ H fun v H1 => ∃ (a : Addr) (xs : List V), v = .ref a ∧ SqL K H1 a xs ∧ ∀ q, H1 q = none → Q (.ref q) (upd H1 q (.lst xs.reverse))
theorem pe_lstRev {X : Cx} {e : Expr} {te : TE} {p p2 pos pos2 : Pos} (hc : X.calm = true) (hm : X.mg "list" = none) (hm2 : X.mg "reversed" = none) (he : PE X e te) (hg : Gl X "list" := by rfl) (hg2 : Gl X "reversed" := by rfl)
    (hs : starEach [e] X.env = (false, eval e X.env) :: starEach [] X.env := by rfl)
    (hs2 : starEach [.Call (.Name "reversed" p2) [e] [] pos2] X.env = (false, eval (.Call (.Name "reversed" p2) [e] [] pos2) X.env) :: starEach [] X.env := by rfl) :
    PE X (.Call (.Name "list" p) [.Call (.Name "reversed" p2) [e] [] pos2] [] pos) (tLstRev X.K te) := by
  refine ⟨fun pins s σ H Q I h => ?_⟩
  refine Call_ (ld_blt I hg hm boot_list (callWith_type1 (args_cons (Call_ (ld_blt I hg2 hm2 boot_reversed (callWith_type1 (args_cons (thn (he.run pins s σ H _ I h) fun u s1 ⟨v, H1, I1, r1, q1⟩ => args_nil ?_) hs) hs rfl))) hs2) hs2 rfl))
  obtain ⟨a, xs, rfl, hq, q⟩ := q1
  obtain rfl : u = Value.ref a := r1
  obtain ⟨its, rv, p', hz⟩ := I1.list hq
  refine call_reversed_list p'.isList (args_nil ?_)
  generalize hsz : ((its.toArray.size : Int) - 1) = z
  have I2 : Inv X pins σ H1 { s1 with heap := s1.heap.push (revObj a z) } := I1.kept (t' := s1.toks) fun b o e => Heap.get?_push_of_some _ e
  obtain ⟨ol, hol, _⟩ := id p'.isList
  have hne : a ≠ s1.heap.objs.size := Nat.ne_of_lt (Heap.lt_size hol)
  have hn : its.toArray.size ≤ sizeLine := by rw [List.size_toArray, ← rv.length]; exact hz
  subst hsz
  refine call_list_back (s := { s1 with heap := s1.heap.push (revObj a ((its.toArray.size : Int) - 1)) }) (I1.ok.hd hc) ⟨_, Heap.get?_push_size _ rfl, rfl, rfl⟩ (p'.isList.push _) hne hn fun s' acc c hmv hS hi => ?_
  generalize hw : (s1.heap.push (revObj a ((its.toArray.size : Int) - 1))) = hp at *
  have I3 : Inv X pins σ (upd H1 hp.objs.size (.lst xs.reverse)) { s1 with heap := hp.push { cls := .type "list", data := .seq acc c }, toks := s'.toks } :=
    I2.laid (t' := s'.toks) (fun b o e => Heap.get?_push_of_some _ e) (Nat.le_refl _) (show ObjOk X.prog X.w _ _ _ (.lst xs.reverse) from ⟨by rw [List.length_reverse]; exact hz, acc.toList, c, vals_rev rv hi, by rw [Array.toArray_toList]; exact Heap.get?_push_size _ rfl⟩)
  have hlt : s1.heap.objs.size < hp.objs.size := by rw [← hw]; simp [Heap.push]
  obtain ⟨f0, f1, f2, f3, f4, f5⟩ := I1.fpOk (H' := upd H1 hp.objs.size (.lst xs.reverse)) (b := s1.heap.objs.size) (Nat.le_refl _) (by rw [upd_ne (Nat.ne_of_lt hlt)]; exact I1.hok.fresh (Nat.le_refl _))
  have e := Moved.eq_with hmv
  rw [e]
  have I4 := I3.turned (h' := s'.heap) (t' := s'.toks) (it := s1.heap.objs.size) (fun b o hb e => by
    by_cases hbs : b = hp.objs.size
    · subst hbs
      rw [Heap.get?_push_size _ rfl] at e
      cases e
      exact hS
    · rw [Heap.get?_push_ne _ _ _ hbs] at e
      exact hmv.heap b o (by simp [hb, hbs]) (Heap.get?_push_of_some _ e)) f0 f1 f3 f4 f5
  exact ⟨.ref hp.objs.size, _, I4, rfl, q _ (I2.hok.fresh (Nat.le_refl _))⟩
end PyNa
namespace Py
open PySem L2
section
variable {X : Cx} {W : WX} {a b c e : Expr} {ma mb m : M} {pos : Pos}
theorem reps_bls {K H ι} : ∀ {ds : List D} {vs : List V} {bs : List Bool}, Reps K H ι ds vs → allB ds = some bs → vs = bs.map V.bl
  | _, _, _, .nil, h => by cases h; rfl
  | _, _, _, .cons r t, h => by
    cases r with
    | bl b =>
      simp only [allB, Option.map_eq_some_iff] at h
      obtain ⟨is, h1, rfl⟩ := h
      rw [reps_bls t h1]; rfl
    | _ => cases h
theorem reps_nums {K H ι} : ∀ {ds : List D} {vs : List V} {bs : List Int}, Reps K H ι ds vs → allI ds = some bs → vs = bs.map V.int
  | _, _, _, .nil, h => by cases h; rfl
  | _, _, _, .cons r t, h => by
    cases r with
    | int b =>
      simp only [allI, Option.map_eq_some_iff] at h
      obtain ⟨is, h1, rfl⟩ := h
      rw [reps_nums t h1]; rfl
    | _ => cases h
theorem c_all (hc : X.calm = true) : CallR X (.builtin "all") (rC1 X.K (p1 oAll)) := by
  intro pins s σ H xs us Q I r h
  obtain ⟨x, rfl, h⟩ := h
  obtain ⟨d1, g, ι, sr, r1, d, e, k⟩ := h.pure
  simp only [oAll, Option.map_eq_some_iff, Option.bind_eq_some_iff] at e
  obtain ⟨bs, ⟨ds, e1, e2⟩, rfl⟩ := e
  obtain ⟨a, vs, rfl, hq, hr⟩ := sr.list r1 e1
  rw [reps_bls hr e2] at hq
  exact cr_all hc pins s σ H _ us Q I r ⟨a, bs, rfl, hq, k _ (.bl _)⟩
theorem c_any (hc : X.calm = true) : CallR X (.builtin "any") (rC1 X.K (p1 oAny)) := by
  intro pins s σ H xs us Q I r h
  obtain ⟨x, rfl, h⟩ := h
  obtain ⟨d1, g, ι, sr, r1, d, e, k⟩ := h.pure
  simp only [oAny, Option.map_eq_some_iff, Option.bind_eq_some_iff] at e
  obtain ⟨bs, ⟨ds, e1, e2⟩, rfl⟩ := e
  obtain ⟨a, vs, rfl, hq, hr⟩ := sr.list r1 e1
  rw [reps_bls hr e2] at hq
  exact cr_any hc pins s σ H _ us Q I r ⟨a, bs, rfl, hq, k _ (.bl _)⟩
theorem c_sum (hc : X.calm = true) : CallR X (.builtin "sum") (rC1 X.K (p1 oSum)) := by
  intro pins s σ H xs us Q I r h
  obtain ⟨x, rfl, h⟩ := h
  obtain ⟨d1, g, ι, sr, r1, d, e, k⟩ := h.pure
  simp only [oSum, Option.map_eq_some_iff, Option.bind_eq_some_iff] at e
  obtain ⟨is, ⟨ds, e1, e2⟩, rfl⟩ := e
  obtain ⟨a, vs, rfl, hq, hr⟩ := sr.list r1 e1
  rw [reps_nums hr e2] at hq
  exact cr_sum hc pins s σ H _ us Q I r ⟨a, is, rfl, hq, k _ (.int _)⟩
theorem toString_int (i : Int) : (toString i : Str) = sS (toString i : String).toList := Str.ofString_eq_toList _
theorem c_strI : CallR X (.type "str") (rC1 X.K (p1 oStr)) := by
  intro pins s σ H xs us Q I r h
  obtain ⟨x, rfl, h⟩ := h
  obtain ⟨d1, g, ι, sr, r1, d, e, k⟩ := h.pure
  cases r1 with
  | int i =>
    simp only [oStr] at e
    split at e
    · rename_i hl
      cases e
      refine call_str_int pins s σ H _ us Q I r ⟨i, rfl, hl, ?_⟩
      have z := k (.str (sS (toString i).toList)) (.str _)
      rw [← toString_int] at z
      exact z
    · cases e
  | _ => simp [oStr] at e
theorem e_lstRev {p p2 pos2 : Pos} (hc : X.calm = true) (hm : X.mg "list" = none) (hm2 : X.mg "reversed" = none) (he : EE X W e m) (hg : Gl X "list" := by rfl) (hg2 : Gl X "reversed" := by rfl)
    (hs : starEach [e] X.env = (false, eval e X.env) :: starEach [] X.env := by rfl)
    (hs2 : starEach [.Call (.Name "reversed" p2) [e] [] pos2] X.env = (false, eval (.Call (.Name "reversed" p2) [e] [] pos2) X.env) :: starEach [] X.env := by rfl) :
    EE X W (.Call (.Name "list" p) [.Call (.Name "reversed" p2) [e] [] pos2] [] pos) (mUn oRev m) := (PyNa.pe_lstRev hc hm hm2 he hg hg2 hs hs2).mono fun σ H Q h => by
  obtain ⟨ρ, g, ι, er, s, p⟩ := one h
  refine ⟨ρ, g, ι, er, s, p.imp fun d1 g1 H1 ι1 _ x1 s1 p1 v1 r1 => ?_⟩
  obtain ⟨d, g2, ι2, s2, r2, d3, g3, e3, k⟩ := p1 v1 r1
  simp only [oRev, Option.map_eq_some_iff] at e3
  obtain ⟨xs, h1, h2⟩ := e3
  cases h2
  obtain ⟨a, vs, rfl, hq, hr⟩ := s2.list r2 h1
  exact ⟨a, vs, rfl, hq, newL_post s2 hr.rev k⟩
theorem e_revL {k : Nat} {p1 p2 p3 : Pos} (he : EE X W e m) : EE X W (.Subscript e (.Slice none none (some (.UnaryOp .USub (.Constant (.int 1) k p1) p2)) p3) pos) (mUn oRev m) := (pe_revL he).mono fun σ H Q h => by
  obtain ⟨ρ, g, ι, er, s, p⟩ := one h
  refine ⟨ρ, g, ι, er, s, p.imp fun d1 g1 H1 ι1 _ x1 s1 p1 v1 r1 => ?_⟩
  obtain ⟨d, g2, ι2, s2, r2, d3, g3, e3, k⟩ := p1 v1 r1
  simp only [oRev, Option.map_eq_some_iff] at e3
  obtain ⟨xs, h1, h2⟩ := e3
  cases h2
  obtain ⟨a, vs, rfl, hq, hr⟩ := s2.list r2 h1
  exact ⟨a, vs, rfl, hq, newL_post s2 hr.rev k⟩
theorem reps_rgV {K H ι} (n : Nat) : Reps K H ι (rng 0 n) (rgV 0 n) := by
  have e : rgV 0 (n : Int) = ((List.range n).map fun (k : Nat) => (0 : Int) + k).map V.int := by
    unfold rgV
    rw [List.map_map]
    simp [Function.comp_def]
  have e2 : rng 0 n = ((List.range n).map fun (k : Nat) => (0 : Int) + k).map D.int := by
    unfold rng
    rw [List.map_map]
    simp [Function.comp_def]
  rw [e, e2]
  exact Reps.ints
/-- list(range(n)) -/
theorem e_lstRg {p p2 pos2 : Pos} (hc : X.calm = true) (hm : X.mg "list" = none) (hm2 : X.mg "range" = none) (he : EE X W e m) (hg : Gl X "list" := by rfl) (hg2 : Gl X "range" := by rfl)
    (hs : starEach [e] X.env = (false, eval e X.env) :: starEach [] X.env := by rfl)
    (hs2 : starEach [.Call (.Name "range" p2) [e] [] pos2] X.env = (false, eval (.Call (.Name "range" p2) [e] [] pos2) X.env) :: starEach [] X.env := by rfl) :
    EE X W (.Call (.Name "list" p) [.Call (.Name "range" p2) [e] [] pos2] [] pos) (mUn oRng m) := (pe_listRg hc hg hm (prg_1 hg2 hm2 he hs) hs2).mono fun σ H Q h => by
  obtain ⟨ρ, g, ι, er, s, p⟩ := one h
  refine ⟨ρ, g, ι, er, s, p.imp fun d1 g1 H1 ι1 _ x1 s1 p1 v1 r1 => ?_⟩
  obtain ⟨d, g2, ι2, s2, r2, d3, g3, e3, k⟩ := p1 v1 r1
  cases r2 with
  | int n =>
    simp only [oRng] at e3
    split at e3
    · rename_i hn
      cases e3
      obtain ⟨j, rfl⟩ := Int.eq_ofNat_of_zero_le hn.1
      refine ⟨j, rfl, RgOk.of_le (by omega) ?_ (by omega) (by omega), newL_post s2 ?_ k⟩
      · have := hn.2; unfold LINE at this; omega
      · exact reps_rgV _
    · cases e3
  | _ => simp [oRng] at e3
variable {s1 : S} {t : T} {body : List Stmt}
theorem s_while (hp : PassesOwn (model X.prog X.w) X.A X.env X.xe) (hc : TTt X W c t) (hb : SSs X W body s1) : SS X W (.While c body [] pos) (sWhile t s1) := (ps_while hp hc hb).mono fun E σ H ⟨ρ, g, ι, er, s, p⟩ => by
  refine ⟨fun m σ H => ∃ ρ g ι, ER X.K H ι ρ σ ∧ SR_ X.K H ι g ∧ PostS X.K X.mg W E H ι (whGo t s1 m ρ g), ⟨TURNS, ρ, g, ι, er, s, p⟩, ?_⟩
  rintro m σ2 H2 ⟨ρ2, g2, ι2, er2, sr2, p2⟩
  cases m with
  | zero => exact p2.elim
  | succ m =>
    refine ⟨ρ2, g2, ι2, er2, sr2, ?_⟩
    unfold whGo at p2
    cases ht : t ρ2 g2 with
    | bad => rw [ht] at p2; exact p2.elim
    | exc e g3 => rw [ht] at p2; exact fun cls dx H' ι' x s' z => p2 cls dx σ2 H' ι' x s' (er2.ext x) z
    | ok b g3 =>
      rw [ht] at p2
      intro H3 ι3 x3 s3
      have er3 := er2.ext x3
      cases b with
      | false =>
        dsimp only
        rw [if_neg Bool.false_ne_true]
        exact p2 σ2 H3 ι3 x3 s3 er3
      | true =>
        dsimp only
        rw [if_pos rfl]
        dsimp only at p2
        refine ⟨fun σ' H' => ∃ ρ g ι, ER X.K H' ι ρ σ' ∧ SR_ X.K H' ι g ∧ PostS X.K X.mg W E H' ι (whGo t s1 m ρ g), fun σ' H' h => ⟨m, Nat.lt_succ_self m, h⟩, ρ2, g3, ι3, er3, s3, ?_⟩
        cases hb : s1 ρ2 g3 with
        | next ρ4 g4 => rw [hb] at p2; exact fun σ4 H4 ι4 x4 s4 er4 => ⟨ρ4, g4, ι4, er4, s4, PostS.ext (x3.trans x4) p2⟩
        | cont ρ4 g4 => rw [hb] at p2; exact fun σ4 H4 ι4 x4 s4 er4 => ⟨ρ4, g4, ι4, er4, s4, PostS.ext (x3.trans x4) p2⟩
        | brk ρ4 g4 => rw [hb] at p2; exact fun σ4 H4 ι4 x4 s4 er4 => p2 σ4 H4 ι4 (x3.trans x4) s4 er4
        | ret d4 g4 => rw [hb] at p2; exact fun v4 H4 ι4 x4 s4 r4 => p2 v4 H4 ι4 (x3.trans x4) s4 r4
        | exc e4 ρ4 g4 => rw [hb] at p2; exact fun c4 d4 σ4 H4 ι4 x4 => p2 c4 d4 σ4 H4 ι4 (x3.trans x4)
        | bad => rw [hb] at p2; exact p2.elim
/-- x, y = a, b -/
theorem s_par2 (i j : Nat) {x y : Str} {px py pt : Pos} {kt k2 pt2} {as : A} (hc : X.calm = true) (hN : X.N.Nodup) (ha : AA X W [a, b] as) (hi : X.N[i]? = some x := by rfl) (hj : X.N[j]? = some y := by rfl) (hij : i ≠ j := by decide)
    (hx : X.env.scope.names.lookup x = some .local := by rfl) (hy : X.env.scope.names.lookup y = some .local := by rfl)
    (hw : swappedStores [.Tuple [.Name x px, .Name y py] kt pt] (.Tuple [a, b] k2 pt2) X.env = pure (some [x, y]) := by rfl)
    (hs : swapsWithSole [.Tuple [.Name x px, .Name y py] kt pt] (.Tuple [a, b] k2 pt2) pos.line X.env = pure false := by rfl) :
    SS X W (.Assign [.Tuple [.Name x px, .Name y py] kt pt] (.Tuple [a, b] k2 pt2) pos) (sPar as (Py.gCons (Py.gName i) (Py.gCons (Py.gName j) Py.gNil))) := (ps_par hc hN hi hj hij hx hy ha hw hs).mono fun E σ H ⟨ρ, g, ι, er, s, p⟩ => by
  refine ⟨ρ, g, ι, er, s, (PostS.onR er p).imp fun ds g1 H1 ι1 _ x1 s1 p1 vs rs => ?_⟩
  cases rs with
  | nil => exact p1.elim
  | cons r1 t1 =>
    cases t1 with
    | nil => exact p1.elim
    | cons r2 t2 =>
      cases t2 with
      | nil => exact ⟨_, _, rfl, p1.next s1 (((er.ext x1).set r1 i).set r2 j)⟩
      | cons _ _ => exact p1.elim
/-- x, y = a list -/
theorem s_unp {own : List Nat} {es : List Expr} {k n : Nat} {pt : Pos} {t : Tgs} (hc : X.calm = true) (h : EE X W e m) (hg : GGs X own es t n) (hn : (assignEach es X.env).length = n := by rfl) (hst : (assignEach es X.env).findIdx? (·.1) = none := by rfl)
    (hs : swapsWithSole [.Tuple es k pt] e pos.line X.env = pure false := by rfl) (hw : swappedStores [.Tuple es k pt] e X.env = pure none := by rfl) (h1 : (assignEach [.Tuple es k pt] X.env).map (·.2) = [assign (.Tuple es k pt) X.env] := by rfl) :
    SS X W (.Assign [.Tuple es k pt] e pos) (sUnp m t) := (ps_asg h (pg_lst hc hg.run hn hst) hs hw h1).mono fun E σ H ⟨ρ, g, ι, er, s, p⟩ => by
  refine ⟨ρ, g, ι, er, s, (PostS.onR er p).imp fun d1 g1 H1 ι1 _ x1 s1 p1 v1 r1 => ?_⟩
  cases hl : lstOf d1 g1 with
  | none => rw [hl] at p1; exact p1.elim
  | some xs =>
    rw [hl] at p1
    dsimp only at p1
    cases ht : t xs ρ with
    | none => rw [ht] at p1; exact p1.elim
    | some ρ1 =>
      rw [ht] at p1
      obtain ⟨a, vs, rfl, hq, hr⟩ := s1.list r1 hl
      exact ⟨a, vs, rfl, hq, by rw [← hr.len]; exact hg.len _ _ _ ht, xs, ρ, g1, ι1, ρ1, hr, er.ext x1, s1, ht, fun σ' er' _ => p1.next s1 er'⟩
end
end Py
end

section
set_option Elab.async false
set_option linter.all false
set_option maxRecDepth 100000
set_option autoImplicit false
/-! Calls below which no repr is under way (A.guards = some []): the promise of a def, the rule, the call, the head. -/
namespace PyGa
open PySem PySem.Spec PyProof.Rows L2
/-- no repr is under way -/
abbrev Free (A : Around) : Prop := A.guards = some []
theorem Free.deeper {A : Around} (h : Free A) (env : Env) : Free (A.deeper env) := h
/-- what a def promises where no repr is under way -/
structure FnG (P : Program) (w : World) (K : W.Frag) (mg : Str → Option Value) (base : Heap) (CX : CXT) (k : Nat) (f : Addr) (fd : FuncData) (ps : List Str) (sp : Sp) : Prop where
  lens : ∀ vs H Q E, sp vs H Q E → vs.length = ps.length
  go : ∀ (A : Around), Room k A → Free A → ∀ (outer : List Env) (s : Shared) (H : Hp) (args : Args) (us : List Value) (vs : List V) (Q : VK) (E : XK), Env0 P w K mg base A outer s H → BindsTo s fd args (ps.zip us) → Vals vs us → sp vs H Q E → codeAny (model P w) A (.call (.ref f) args) (CR CX outer P w H s Q E) s
section
variable {P : Program} {w : World} {K : W.Frag} {mg : Str → Option Value} {base : Heap} {CX : CXT} {k j : Nat} {f : Addr} {fd : FuncData} {ps : List Str} {sp : Sp}
theorem FnG.of (F : FnOk P w K mg base CX k f fd ps sp) : FnG P w K mg base CX k f fd ps sp := ⟨F.len, fun A hr _ outer s H args us vs Q E e b r h => F.run A outer s H args us vs Q E hr e b r h⟩
theorem FnG.up (F : FnG P w K mg base CX j f fd ps sp) (h : j ≤ k) : FnG P w K mg base CX k f fd ps sp := ⟨F.lens, fun A hr => F.go A (hr.mono h)⟩
/-- the body's rule, as for any def -/
theorem FnG.body {x qual : Str} {params : Arguments} {body : List Stmt} {scope : Scope} {N : List Str} (F : FunD K x qual params body scope [] [] f fd) (S : FnScope N ps scope) (hl : ∀ vs H Q E, sp vs H Q E → vs.length = ps.length)
    (hb : ∀ (cdv : Value) (A : Around) (outer : List Env) (s : Shared) (H : Hp) (vs : List V) (Q : VK) (E : XK), Room k (A.deeper (envOfC qual scope s.heap.objs.size f cdv)) → Free (A.deeper (envOfC qual scope s.heap.objs.size f cdv)) → sp vs H Q E →
      ∃ t, PSs (cxOf CX P w K mg base N qual scope f cdv A outer s H E) body t ∧ t { nx := fun _ H' => Q .non H', rt := Q } (L2.start N vs) H) : FnG P w K mg base CX (k + 1) f fd ps sp := by
  obtain ⟨oc, od, dV, kV, doc, pm, an, cdv, ct, osl, rfl, lk, hcd, _, _⟩ := F.ex
  refine ⟨hl, fun A hr hg outer s H args us vs Q E e0 bd r h => ?_⟩
  have n := hl vs H Q E h
  have hK : K.In s.heap := W.Frag.In.keeps e0.mod.kin fun b o e => (e0.bs b o e).1
  have kinds : ∀ y ∈ ps.zip us, scope.names.lookup y.1 = some .local ∨ (scope.names.lookup y.1 = some .cell ∧ ((cellsFrom (s.heap.objs.size + 1) scope.names []).lookup y.1).isSome = true) := by
    rintro ⟨z, v⟩ hz
    exact (S.par z (List.of_mem_zip hz).1).imp id fun q => ⟨q, W.cellsFrom_some _ _ _ (.inl q)⟩
  refine codeAny_call_function hr.depth (hK _ _ lk) rfl S.co S.gen rfl (W.codeRec_of hK hcd) (bd _ _ _ _ (wpAny_newFunctionEnv_cells S.kind kinds fun env he s1 x => ?_))
  subst he
  obtain ⟨t, ht, hq⟩ := hb cdv A outer s H vs Q E (hr.deeper _) hg h
  refine ⟨(e0.mod.nolimit.keeps fun b o e => (e0.bs b o e).1).keeps x.toInCall.keep, codeAny_func (wpAny_mono (ht.run [] s1 (L2.start N vs) H _ (inv_start S hr.hd e0 n r x) hq) (fun fl s' z => ?_) fun _ _ z => z)⟩
  cases fl with
  | next => obtain ⟨σ', H', J, q⟩ := z; exact ⟨V.non, H', J.os, J.bare, J.base, J.hok, rfl, q⟩
  | ret u => obtain ⟨v, σ', H', J, rv, q⟩ := z; exact ⟨v, H', J.os, J.bare, J.base, J.hok, rv, q⟩
  | cont => obtain ⟨_, _, _, q⟩ := z; cases q
  | brk => obtain ⟨_, _, _, q⟩ := z; cases q
end
section
variable {X : Cx} {CX : CXT} {k : Nat} {f : Addr} {fd : FuncData} {ps : List Str} {sp : Sp}
/-- a call of such a def -/
theorem runG {E : XK} {pins : List (Addr × Obj)} {σ : L2.St} {H : Hp} {s : Shared} {Q : VK} {us : List Value} {vs : List V} (F : FnG X.prog X.w X.K X.mg X.base CX k f fd ps sp) (hr : Room k X.A) (hg : Free X.A) (hb : Binds X.K fd ps [])
    (hx : ∀ (pins : List (Addr × Obj)) (H : Hp) (s : Shared) (e : Value) (s' : Shared), L2.Inv X pins σ H s → CX X.stack H s E e s' → X.xe e s') (I : L2.Inv X pins σ H s) (r : Vals vs us) (h : sp vs H Q E) : wpAny (model X.prog X.w) X.A (call (.ref f) us) (EP X pins σ Q) X.xe s := by
  have n : (us ++ ([] : List Value)).length = ps.length := by rw [List.append_nil, ← r.length]; exact F.lens vs H Q E h
  have b := hb s us I.kIn n
  rw [List.append_nil] at b
  refine wpAny_call (codeAny_mono (F.go X.A hr hg X.stack s H ⟨us, []⟩ us vs Q E I.env0 b r h) ?_)
  intro r s' z
  cases r with
  | error e => exact hx pins H s e s' I z
  | ok fl =>
    cases fl with
    | ret u => exact I.after z
    | next => cases z
    | cont => cases z
    | brk => cases z
end
end PyGa
end

section
set_option Elab.async false
set_option linter.all false
set_option maxRecDepth 100000
set_option autoImplicit false
/-! repr of data. -/
namespace Py
open PySem L2
theorem plain_print : ∀ n : Fin 127, (32 ≤ n.val → n.val ≠ 39 → n.val ≠ 34 → n.val ≠ 92 → PySem.Builtin.Str.reprChar 39 n.val = [n.val]) := by decide +kernel
theorem repr_plain {c : Char} (h : plainC c = true) : PySem.Builtin.Str.reprChar 39 c.toNat = [c.toNat] ∧ c.toNat ≠ 39 := by
  unfold plainC at h
  simp only [Bool.and_eq_true, decide_eq_true_eq, bne_iff_ne, ne_eq] at h
  obtain ⟨⟨⟨⟨h1, h2⟩, h3⟩, h4⟩, h5⟩ := h
  exact ⟨plain_print ⟨c.toNat, by omega⟩ h1 h3 h4 h5, h3⟩
theorem sS_cps (s : List Char) : (sS s).cps = (s.map Char.toNat).toArray := rfl
theorem foldl_plain : ∀ (s : List Char) (acc : Array Nat), s.all plainC = true → (s.map Char.toNat).foldl (fun out c => out ++ (PySem.Builtin.Str.reprChar 39 c).toArray) acc = acc ++ (s.map Char.toNat).toArray
  | [], acc, _ => by simp
  | c :: s, acc, h => by
    rw [List.all_cons, Bool.and_eq_true] at h
    rw [List.map_cons, List.foldl_cons, foldl_plain s _ h.2, (repr_plain h.1).1]
    apply Array.toList_inj.mp
    simp
theorem text_plain {s : List Char} (h : s.all plainC = true) : PySem.reprText (sS s) = sS (['\''] ++ s ++ ['\'']) := by
  have q : PySem.reprQuote (sS s) = 39 := by
    unfold PySem.reprQuote
    rw [if_neg]
    rw [Bool.and_eq_true]
    rintro ⟨z, _⟩
    rw [sS_cps, Array.contains_iff_mem, List.mem_toArray, List.mem_map] at z
    obtain ⟨c, hc, e⟩ := z
    exact (repr_plain (List.all_eq_true.mp h c hc)).2 e
  unfold PySem.reprText
  rw [q, sS_cps, ← Array.foldl_toList, foldl_plain s _ h]
  unfold sS
  congr 1
  apply Array.toList_inj.mp
  simp
theorem lit_eq {x : String} {s : List Char} (h : x.toList = s) : (x : Str) = sS s := by rw [← h]; exact Str.ofString_eq_toList x
theorem join_sS : ∀ ts : List (List Char), Str.join ", " (ts.map sS) = sS (commas ts)
  | [] => rfl
  | [x] => rfl
  | x :: y :: r => by
    show sS x ++ ", " ++ Str.join ", " ((y :: r).map sS) = _
    rw [join_sS (y :: r), lit_eq (x := ", ") (s := [',', ' ']) rfl, sS_append, sS_append]
    rfl
theorem textFrom_sS : ∀ (ts : List (List Char)) (k : Nat) (acc : List Char), PySem.textFrom k (sS acc) (ts.map sS) = sS (acc ++ (if k > 0 ∧ ts ≠ [] then [',', ' '] else []) ++ commas ts)
  | [], k, acc => by simp [PySem.textFrom, commas]
  | t :: r, k, acc => by
    rw [List.map_cons]
    unfold PySem.textFrom
    have e1 : ((if k > 0 then ", " else "" : String) : Str) = sS (if k > 0 then [',', ' '] else []) := by
      split
      · exact lit_eq rfl
      · exact lit_eq rfl
    rw [e1, sS_append, sS_append, textFrom_sS r (k + 1) _]
    congr 1
    cases r with
    | nil => simp [commas]
    | cons y r => simp [commas]
theorem lstT_sS (ts : List (List Char)) : PySem.listText (ts.map sS) = sS (lstT ts) := by
  unfold PySem.listText lstT
  rw [lit_eq (x := "[") (s := ['[']) rfl, textFrom_sS, lit_eq (x := "]") (s := [']']) rfl, sS_append]
  congr 1
theorem tupT_sS (ts : List (List Char)) : PySem.tupleText (ts.map sS) = sS (tupT ts) := by
  unfold PySem.tupleText tupT
  rw [join_sS, lit_eq (x := "(") (s := ['(']) rfl, sS_append, List.length_map]
  have e1 : ((if ts.length == 1 then ",)" else ")" : String) : Str) = sS (if ts.length == 1 then [',', ')'] else [')']) := by
    split
    · exact lit_eq rfl
    · exact lit_eq rfl
  rw [e1, sS_append]
mutual
theorem shown_eq : ∀ (p : P) (s : List Char), P.shows p = some s → p.py.shown = sS s ∧ p.py.showable = true
  | .non, s, h => by
    simp only [P.shows] at h
    cases h
    exact ⟨by simp only [P.py, PyData.shown]; exact lit_eq rfl, by simp only [P.py, PyData.showable]⟩
  | .bl b, s, h => by
    simp only [P.shows] at h
    cases h
    refine ⟨?_, by simp only [P.py, PyData.showable]⟩
    simp only [P.py, PyData.shown]
    cases b
    · exact lit_eq rfl
    · exact lit_eq rfl
  | .int i, s, h => by
    simp only [P.shows] at h
    split at h
    · rename_i hl
      cases h
      exact ⟨by simp only [P.py, PyData.shown]; exact toString_int i, by simp only [P.py, PyData.showable]; exact decide_eq_true hl⟩
    · cases h
  | .str x, s, h => by
    simp only [P.shows] at h
    split at h
    · rename_i hl
      cases h
      exact ⟨by simp only [P.py, PyData.shown]; exact text_plain hl, by simp only [P.py, PyData.showable]⟩
    · cases h
  | .tup ds, s, h => by
    simp only [P.shows, Option.map_eq_some_iff] at h
    obtain ⟨ts, h1, rfl⟩ := h
    obtain ⟨e1, e2⟩ := shown_eqs ds ts h1
    exact ⟨by simp only [P.py, PyData.shown]; rw [e1]; exact tupT_sS ts, by simp only [P.py, PyData.showable]; exact e2⟩
  | .lst ds, s, h => by
    simp only [P.shows, Option.map_eq_some_iff] at h
    obtain ⟨ts, h1, rfl⟩ := h
    obtain ⟨e1, e2⟩ := shown_eqs ds ts h1
    exact ⟨by simp only [P.py, PyData.shown]; rw [e1]; exact lstT_sS ts, by simp only [P.py, PyData.showable]; exact e2⟩
  | .scr _, s, h => by simp only [P.shows] at h; cases h
  | .dct _ _, s, h => by simp only [P.shows] at h; cases h
  | .ins _ _ _, s, h => by simp only [P.shows] at h; cases h
theorem shown_eqs : ∀ (p : List P) (s : List (List Char)), P.showsL p = some s → PyData.shownAll (P.pys p) = s.map sS ∧ PyData.showableAll (P.pys p) = true
  | [], s, h => by
    simp only [P.showsL] at h
    cases h
    exact ⟨by simp only [P.pys, PyData.shownAll, List.map_nil], by simp only [P.pys, PyData.showableAll]⟩
  | p :: r, s, h => by
    simp only [P.showsL] at h
    split at h
    · rename_i a b h1 h2
      cases h
      obtain ⟨e1, e2⟩ := shown_eq p a h1
      obtain ⟨e3, e4⟩ := shown_eqs r b h2
      exact ⟨by simp only [P.pys, PyData.shownAll, List.map_cons]; rw [e1, e3], by simp only [P.pys, PyData.showableAll]; rw [e2, e4]; rfl⟩
    · cases h
end
section
variable {X : Cx}
theorem c_repr {k : Nat} (hr : Room k X.A) (hf : PyGa.Free X.A) : CallR X (.builtin "repr") (rC1 X.K (p1 oRepr)) := by
  intro pins s σ H xs us Q I r h
  obtain ⟨x, rfl, h⟩ := h
  obtain ⟨d1, g, ι, sr, r1, d, e, k⟩ := h.pure
  simp only [oRepr, Option.bind_eq_some_iff] at e
  obtain ⟨p, hv, t, hs, e⟩ := e
  split at e
  · rename_i hl
    cases e
    obtain ⟨e1, e2⟩ := shown_eq p t hs
    obtain ⟨u, rfl, ru⟩ := vals1 r
    have dp := dp_view sr 60 _ _ _ hv r1
    obtain ⟨as, rd⟩ := Dp.reads I _ _ _ dp ru
    have dep := depth_view g 60 _ _ hv
    have un := hr.un
    have hsz : p.py.shown.length ≤ sizeLine := by rw [e1, sS_length, line_eq]; exact hl
    have fin : ∀ h' v tk, (∀ b o, s.heap.get? b = some o → h'.get? b = some o) → EP X pins σ Q (.str p.py.shown v) { s with heap := h', toks := tk } := fun h' v tk hk => ⟨.str (sS t), H, I.kept hk, ⟨v, by rw [e1]⟩, k _ (.str t)⟩
    cases r1 with
    | non =>
      simp [view] at hv; subst hv
      cases ru
      exact PySem.P.repr_of_none (fin s.heap _ _ fun _ _ z => z)
    | bl b =>
      simp [view] at hv; subst hv
      cases ru
      exact PySem.P.repr_of_bool (by simpa only [P.py, PyData.shown] using fin s.heap _ _ fun _ _ z => z)
    | int i =>
      simp [view] at hv; subst hv
      obtain ⟨t', rfl⟩ := ru
      refine PySem.P.repr_of_int ?_ (by simpa only [P.py, PyData.shown] using fin s.heap _ _ fun _ _ z => z)
      simpa only [P.py, PyData.showable, decide_eq_true_eq] using e2
    | str z =>
      simp [view] at hv; subst hv
      obtain ⟨t', rfl⟩ := ru
      simp only [P.py, PyData.shown] at fin hsz
      exact PySem.P.repr_of_str (fin s.heap _ _ fun _ _ z => z) hsz
    | tup ht hr' =>
      obtain rfl : u = Value.ref _ := ru
      exact repr_of_reads' rd e2 (PyData.noDict_hsm (PyData.hasDict_of_canLay _ (P.lay p))) hf (by omega) (fun _ _ z => z) fin hsz
    | ref ha =>
      obtain rfl : u = Value.ref _ := ru
      exact repr_of_reads' rd e2 (PyData.noDict_hsm (PyData.hasDict_of_canLay _ (P.lay p))) hf (by omega) (fun _ _ z => z) fin hsz
    | adr a => simp [view] at hv
  · cases e
end
end Py
end

section
set_option Elab.async false
set_option linter.all false
set_option maxRecDepth 100000
set_option autoImplicit false
/-! Calls and the head where no repr is under way. -/
namespace Py
open PySem L2
/-- a def that may be called by its name, where no repr is under way -/
structure CalG (P : Program) (w : World) (K : PySem.W.Frag) (mg : Str → Option Value) (base : Heap) (CX : CXT) (k : Nat) (x : Str) (n : Nat) (f : F) : Prop where
  ex : ∃ (a : Addr) (fd : FuncData) (ps : List Str), PyGa.FnG P w K mg base CX k a fd ps (spF K mg n f) ∧ mg x = some (.ref a) ∧ PySem.W.keepIn K (.ref a) = true ∧ Binds K fd ps []
section
variable {P : Program} {w : World} {K : PySem.W.Frag} {mg : Str → Option Value} {base : Heap} {CX : CXT} {k n : Nat} {x : Str} {f : F}
theorem CalG.of (c : Cal P w K mg base CX k x n f) : CalG P w K mg base CX k x n f := let ⟨a, fd, ps, F, r⟩ := c.ex; ⟨a, fd, ps, PyGa.FnG.of F, r⟩
theorem calG_bad {a : Addr} {fd : FuncData} {ps : List Str} (kp : PySem.W.keepIn K (.ref a) = true) (hm : mg x = some (.ref a)) (b : Binds K fd ps []) (hl : ps.length = n) : CalG P w K mg base CX k x n fun _ _ => .bad :=
  CalG.of (cal_bad kp hm b hl)
theorem calmG {fa : Addr} {fd : FuncData} {ps : List Str} {sp : Sp} (F : PyGa.FnG P w K mg base (L2.CX P w) k fa fd ps sp) : PyGa.FnG P w K mg base CX0 k fa fd ps (sp0 sp) := by
  refine ⟨fun vs H Q E h => F.lens vs H Q _ h, fun A hr hg outer s H args us vs Q E he hb hv h => codeAny_mono (F.go A hr hg outer s H args us vs Q _ he hb hv h) fun r s' z => ?_⟩
  cases r with
  | ok fl => cases fl <;> exact z
  | error e =>
    obtain ⟨_, _, _, _, _, _, _, _, _, _, _, _, q⟩ := z
    exact q.elim
end
section
variable {X : Cx} {W : WX} {e : Expr} {es : List Expr} {k j n : Nat} {x : Str} {p pos : Pos} {f : F} {as : A}
theorem e_callG (cl : CalG X.prog X.w X.K X.mg X.base (L2.CX X.prog X.w) k x n f) (hr : Room j X.A) (hf : PyGa.Free X.A) (hk : k ≤ j) (tk : Takes X W) (ha : AA X W (e :: es) as) (hg : Gl X x := by rfl)
    (hdb : (x == ("__debug__" : Str)) = false := by decide) (he : starEach (e :: es) X.env = (false, eval e X.env) :: starEach es X.env := by rfl) (hpl : (backTo pos (starEach es X.env)).any (·.1) = false := by rfl)
    (hn : ∀ ρ g ds g', as ρ g = .ok ds g' → ds.length = n) : EE X W (.Call (.Name x p) (e :: es) [] pos) (mCall f as) := by
  obtain ⟨a, fd, ps, F, hm, kp, b⟩ := cl.ex
  have pe : PE X (.Call (.Name x p) (e :: es) [] pos) (fun σ H Q => tA X.K X.mg W as σ H fun vs H1 => spF X.K X.mg n f vs H1 Q (WE W σ)) := by
    refine ⟨fun pins s σ H Q I h => wpAny_Call_Name_kw (ld_glob I hg hm ?_ hdb)⟩
    refine PySem.W.callWith_K (h₀ := X.base) I.ok.mod.kin kp (thn (ha.run pos pins s σ H _ I h) ?_) he hpl
    rintro us s1 ⟨vs, H1, I1, r, q⟩
    exact ⟨I1.kIn, PyGa.runG (F.up hk) hr hf b (passAt tk σ) I1 r q⟩
  refine pe.mono fun σ H Q ⟨ρ, g, ι, er, s, p⟩ => ?_
  refine ⟨ρ, g, ι, er, s, (Post.bind p).imp fun ds g1 H1 ι1 e1 x1 s1 p1 vs rs => ?_⟩
  exact ⟨ds, g1, ι1, s1, rs, hn ρ g ds g1 e1, post_s p1⟩
theorem e_callG0 (cl : CalG X.prog X.w X.K X.mg X.base (L2.CX X.prog X.w) k x 0 f) (hr : Room j X.A) (hf : PyGa.Free X.A) (hk : k ≤ j) (tk : Takes X W) (hg : Gl X x := by rfl)
    (hdb : (x == ("__debug__" : Str)) = false := by decide) : EE X W (.Call (.Name x p) [] [] pos) (mCall f mNil) := by
  obtain ⟨a, fd, ps, F, hm, kp, b⟩ := cl.ex
  have pe : PE X (.Call (.Name x p) [] [] pos) (fun σ H Q => spF X.K X.mg 0 f [] H Q (WE W σ)) :=
    ⟨fun pins s σ H Q I h => wpAny_Call_Name_kw (ld_glob I hg hm (PySem.W.callWith_K0 I.kIn kp (PyGa.runG (us := []) (F.up hk) hr hf b (passAt tk σ) I .nil h)) hdb)⟩
  refine pe.mono fun σ H Q ⟨ρ, g, ι, er, s, p⟩ => ?_
  exact ⟨[], g, ι, s, .nil, rfl, post_s p⟩
end
end Py
namespace PyGa
open PySem PySem.Spec PyProof.Rows L2
section
variable {P : Program} {w : World} {K : W.Frag} {mg mb : Str → Option Value} {CX : CXT} {k : Nat} {fa a : Addr} {fd : FuncData} {x : Str} {sp : Sp} {s₁ : Shared} {vs : List Value} {ns : List Int}
/-- what the head asks of the call -/
abbrev EndOk (s₁ : Shared) : Result → Shared → Prop := fun r s' => r = .ok (.ret (.bool true)) ∧ OldK s₁.heap s'.heap ∧ s'.os = s₁.os ∧ AllBare s'.gens
/-- the script's list as it stands -/
abbrev scrO (vs : List Value) : Obj := { cls := .type "list", data := .seq vs.toArray }
/-- from a heap in which at most the script is told -/
theorem end_of {H : Hp} (KX : K.In s₁.heap) (hns : s₁.heap.Ns mainGlobals mg) (hb : s₁.heap.Ns builtinsNs mb) (hbb : ∀ x : Str, x ≠ "__name__" → mb x = bootBuiltins x) (hlim : s₁.heap.NoLimit) (hgen : s₁.gens = #[]) (ha : s₁.heap.get? a = some (scrO vs)) (hr : Room k callerA)
    (F : ∀ base : Heap, K.In base → base.Ns mainGlobals mg → FnG P w K mg base CX k fa fd [x] sp) (hbind : ∀ (s : Shared) (u : Value), BindsTo s fd ⟨[u], []⟩ [(x, u)]) (hsp : sp [.ref a] H (fun v _ => v = .bl true) fun _ _ _ => False)
    (hCX : ∀ e s', CX [] H s₁ (fun _ _ _ => False) e s' → False) (hO : L2.Only H) (hok : HOk P w H s₁.heap) (hA : ∀ b, H b ≠ none → b = a) (hKa : H a ≠ none → K.lookup a = none) : codeAny (model P w) callerA (.call (.ref fa) ⟨[.ref a], []⟩) (EndOk s₁) s₁ := by
  have out : ∀ {b : Addr}, b ≠ a → H b = none := fun {b} hb => Classical.byContradiction fun z => hb (hA b z)
  have keepNs : ∀ {b : Addr} {m : Str → Option Value}, s₁.heap.Ns b m → (hidT s₁.heap H).Ns b m := fun {b m} ⟨o, es, ep, e, d, r⟩ => by
    refine ⟨o, es, ep, hidT_get e (out fun z => ?_), d, r⟩
    subst z; rw [ha] at e; cases e; cases d
  have inK : K.In (hidT s₁.heap H) := fun b o e => hidT_get (KX b o e) (Classical.byContradiction fun z => by
    have e' := hA b z; subst e'; rw [hKa z] at e; cases e)
  have md : Mod K mg (hidT s₁.heap H) := by
    obtain ⟨mc, l1, l2⟩ := hlim
    exact ⟨inK, keepNs hns, ⟨mb, keepNs hb, hbb⟩, ⟨mc, keepNs l1, l2⟩⟩
  have e0 : Env0 P w K mg (hidT s₁.heap H) callerA [] s₁ H := ⟨rfl, md, fun _ _ => of_hidT, Nat.le_of_eq (hidT_size _ _), trivial, fun b z => absurd z (List.not_mem_nil), hok, .of_eq hgen⟩
  refine codeAny_mono ((F _ inK (keepNs hns)).go callerA hr rfl [] s₁ H ⟨[.ref a], []⟩ [.ref a] [.ref a] _ _ e0 (hbind s₁ _) (.cons rfl .nil) hsp) ?_
  rintro (e | fl) s' z
  · exact (hCX e s' z).elim
  · cases fl with
    | ret u =>
      obtain ⟨v, H', h1, h2, un, hok', rv, rfl⟩ := z
      obtain rfl : u = Value.bool true := rv
      refine ⟨rfl, OldK.of_keep fun b o e => ?_, h1, h2⟩
      cases q : H b with
      | none => exact un.keep b o e q (fun z => absurd z List.not_mem_nil) List.not_mem_nil
      | some y =>
        rcases hO b with z | ⟨ob, xs, z⟩
        · rw [q] at z; cases z
        · have t1 := (hok b _ z).1; rw [e] at t1; cases t1
          exact (hok' b _ (un.frzs b _ _ z)).1
    | next => cases z
    | cont => cases z
    | brk => cases z
theorem end_callG (KX : K.In s₁.heap) (hns : s₁.heap.Ns mainGlobals mg) (hb : s₁.heap.Ns builtinsNs mb) (hbb : ∀ x : Str, x ≠ "__name__" → mb x = bootBuiltins x) (hlim : s₁.heap.NoLimit) (hgen : s₁.gens = #[]) (ha : s₁.heap.get? a = some (scrO vs)) (hi : IntsAre vs ns) (hl : ns.length ≤ sizeLine) (hr : Room k callerA)
    (F : ∀ base : Heap, K.In base → base.Ns mainGlobals mg → FnG P w K mg base CX k fa fd [x] sp) (hbind : ∀ (s : Shared) (u : Value), BindsTo s fd ⟨[u], []⟩ [(x, u)]) (hsp : ∀ H : Hp, L2.Only H → SqL K H a (ns.map V.int) → sp [.ref a] H (fun v _ => v = .bl true) fun _ _ _ => False)
    (hCX : ∀ H e s', CX [] H s₁ (fun _ _ _ => False) e s' → False) : codeAny (model P w) callerA (.call (.ref fa) ⟨[.ref a], []⟩) (EndOk s₁) s₁ := by
  have rv := vals_ints hi
  cases hk : K.lookup a with
  | some o =>
    obtain rfl : scrO vs = o := Option.some.inj (ha.symm.trans (KX a o hk))
    have hO : L2.Only fun _ => none := fun _ => .inl rfl
    exact end_of KX hns hb hbb hlim hgen ha hr F hbind (hsp _ hO (.inr ⟨_, vs.toArray, _, hk, rfl, rfl, rfl, by rw [List.size_toArray, hi.length]; exact hl, by simpa using rv⟩)) (hCX _) hO (fun b u z => absurd z nofun) (fun b z => absurd rfl z) fun z => absurd rfl z
  | none =>
    have yes : (if a = a then some (HO.frz (scrO vs) (.lst (ns.map V.int))) else none) = some (.frz (scrO vs) (.lst (ns.map V.int))) := if_pos rfl
    have hO : L2.Only fun b => if b = a then some (.frz (scrO vs) (.lst (ns.map V.int))) else none := fun b => by
      by_cases e : b = a
      · exact .inr ⟨_, _, if_pos e⟩
      · exact .inl (if_neg e)
    refine end_of KX hns hb hbb hlim hgen ha hr F hbind (hsp _ hO (.inl (.inr ⟨_, yes⟩))) (hCX _) hO (fun b u z => ?_) (fun b z => Classical.byContradiction fun e => z (if_neg e)) fun _ => hk
    by_cases e : b = a
    · subst e
      obtain rfl := Option.some.inj (yes.symm.trans z)
      exact ⟨ha, by rw [List.length_map]; exact hl, vs, _, rv, ha⟩
    · exact absurd ((if_neg e).symm.trans z) nofun
end
/-- THE HEAD's goal from the promise of the law's def -/
theorem walk_G {l : W.OpenLaw} {n k : Nat} {q : Program} {loose : List Str} {XP : (Str → Option Value) → Heap → Prop} {YP : World → Heap → Prop} {d : DefRec} {CX : CXT} {x : Str} (hn : l.most = some n) (hn2 : n ≤ sizeLine) (hdf : d.params.defaults = []) (hr : Room k callerA)
    (F : ∀ (w : World) (mg : Str → Option Value) (fa : Addr) (h : Heap), YP w h → h.Ns mainGlobals mg → mg d.name = some (.ref fa) → ∃ (K : W.Frag) (fd : FuncData) (sp : Sp), K.In h ∧ (∀ (s : Shared) (u : Value), BindsTo s fd ⟨[u], []⟩ [(x, u)]) ∧
      (∀ (H : Hp) (a : Addr) (ns : List Int), ns.length ≤ n → L2.Only H → SqL K H a (ns.map V.int) → sp [.ref a] H (fun v _ => v = .bl true) fun _ _ _ => False) ∧ ∀ base : Heap, K.In base → base.Ns mainGlobals mg → FnG l.prog w K mg base CX k fa fd [x] sp)
    (hCX : ∀ (H : Hp) (s : Shared) (e : Value) (s' : Shared), CX [] H s (fun _ _ _ => False) e s' → False) : W.WalkO q loose XP YP l.row.toRowW d [] (fun f vs => PySem.call f vs) :=
  Att.attach_call hn hdf fun w s₀ s₁ mg mb fa o pm cd doc a vs ns G Y ho hd hcd hm hobj hints hlen hgen => by
    obtain ⟨K, fd, sp, KX, hb, hsp, hF⟩ := F w mg fa _ Y G.T.g hm
    exact end_callG KX G.T.g G.T.b G.T.builtins G.T.nolimit hgen hobj hints (Nat.le_trans hlen hn2) hr hF hb (fun H hO hS => hsp H a ns hlen hO hS) fun H e s' => hCX H s₁ e s'
end PyGa
end

section
set_option autoImplicit false
set_option linter.all false
/-! Values without a store: trees, of which some parts are owned by one holder (and may be written), the others frozen. What they stand for in a store. -/
namespace Py
inductive U where
  | fz (p : P) | own (ps : List P) | tup (us : List U) | nst (us : List U)
deriving Inhabited
mutual
def U.toP : U → P
  | .fz p => p
  | .own ps => .lst ps
  | .tup us => .tup (U.toPs us)
  | .nst us => .lst (U.toPs us)
def U.toPs : List U → List P
  | [] => []
  | u :: r => u.toP :: U.toPs r
end
/-- no list within -/
def P.flat : P → Bool
  | .tup ps => flats ps
  | .lst _ => false
  | .scr _ => false
  | .dct _ _ => false
  | .ins _ _ _ => false
  | _ => true
where flats : List P → Bool
  | [] => true
  | p :: r => P.flat p && flats r
/-- the frozen parts hold no list -/
def U.nr : U → Bool
  | .fz p => p.flat
  | .own ps => P.flat.flats ps
  | .tup us => nrs us
  | .nst us => nrs us
where nrs : List U → Bool
  | [] => true
  | u :: r => U.nr u && nrs r
abbrev Fz := Nat → Prop
/-! ### what a tree stands for -/
mutual
def fr (g : G) (F : Fz) : P → D → Prop
  | .non, d => d = .non
  | .bl b, d => d = .bl b
  | .int i, d => d = .int i
  | .str s, d => d = .str s
  | .tup ps, d => ∃ ds, d = .tup ds ∧ frs g F ps ds
  | .lst ps, d => ∃ r xs, d = .ref r ∧ F r ∧ g[r]? = some (.lst xs) ∧ frs g F ps xs
  | .scr ps, d => ∃ r xs, d = .ref r ∧ F r ∧ g[r]? = some (.frz xs) ∧ frs g F ps xs
  | .dct _ _, _ => False
  | .ins _ _ _, _ => False
def frs (g : G) (F : Fz) : List P → List D → Prop
  | [], ds => ds = []
  | p :: ps, ds => ∃ d r, ds = d :: r ∧ fr g F p d ∧ frs g F ps r
end
mutual
def rl (g : G) (F : Fz) : U → D → List Nat → Prop
  | .fz p, d, A => fr g F p d ∧ A = []
  | .own ps, d, A => ∃ r xs, d = .ref r ∧ g[r]? = some (.lst xs) ∧ frs g F ps xs ∧ A = [r]
  | .tup us, d, A => ∃ ds, d = .tup ds ∧ rls g F us ds A
  | .nst us, d, A => ∃ r xs B, d = .ref r ∧ g[r]? = some (.lst xs) ∧ rls g F us xs B ∧ A = r :: B
def rls (g : G) (F : Fz) : List U → List D → List Nat → Prop
  | [], ds, A => ds = [] ∧ A = []
  | u :: us, ds, A => ∃ d r B C, ds = d :: r ∧ rl g F u d B ∧ rls g F us r C ∧ A = B ++ C
end
/-- a list's top place may lie anywhere -/
def fr1 (g : G) (F : Fz) (p : P) (d : D) : Prop := match p with
  | .lst ps => ∃ r xs, d = .ref r ∧ g[r]? = some (.lst xs) ∧ frs g F ps xs
  | p => fr g F p d
/-- places that stay -/
def Kp (g g' : G) (X : Nat → Prop) : Prop := ∀ r, X r → r < g.length → g'[r]? = g[r]?
section
variable {g g' : G} {F F' : Fz} {u : U} {us : List U} {p : P} {ps : List P} {d : D} {ds : List D} {A B : List Nat}
theorem lstOf_ex {r : Nat} {xs : List D} (h : lstOf (.ref r) g = some xs) : g[r]? = some (.lst xs) ∨ g[r]? = some (.frz xs) := by
  unfold lstOf at h
  dsimp only at h
  split at h
  · rename_i e; cases h; exact .inl e
  · rename_i e; cases h; exact .inr e
  · cases h
theorem Kp.get {X : Nat → Prop} {r : Nat} {o : O} (k : Kp g g' X) (hr : X r) (h : g[r]? = some o) : g'[r]? = some o := by rw [k r hr (List.getElem?_eq_some_iff.mp h).1]; exact h
theorem Kp.at {X : Nat → Prop} {r : Nat} {xs : List D} (k : Kp g g' X) (hr : X r) (h : lstOf (.ref r) g = some xs) : lstOf (.ref r) g' = some xs := by
  rcases lstOf_ex h with h | h
  · exact lstOf_lst (k.get hr h)
  · exact lstOf_frz (k.get hr h)
theorem Kp.mono {X Y : Nat → Prop} (k : Kp g g' X) (h : ∀ r, Y r → X r) : Kp g g' Y := fun r hr => k r (h r hr)
theorem Kp.of_eq {X : Nat → Prop} (h : ∀ r, X r → r < g.length → g'[r]? = g[r]?) : Kp g g' X := h
theorem Kp.rfl' {X : Nat → Prop} : Kp g g X := fun _ _ _ => rfl
theorem Kp.trans {g2 : G} {X : Nat → Prop} (k : Kp g g' X) (k' : Kp g' g2 X) : Kp g g2 X := fun r hr hl => by
  have e := k r hr hl
  refine (k' r hr ?_).trans e
  obtain ⟨o, ho⟩ : ∃ o, g[r]? = some o := ⟨_, List.getElem?_eq_getElem hl⟩
  exact (List.getElem?_eq_some_iff.mp (e.trans ho)).1
mutual
theorem fr_go (hF : ∀ r, F r → F' r) (k : Kp g g' F) : ∀ (p : P) (d : D), fr g F p d → fr g' F' p d
  | .non, _, h => h
  | .bl _, _, h => h
  | .int _, _, h => h
  | .str _, _, h => h
  | .tup ps, _, ⟨ds, e, h⟩ => ⟨ds, e, frs_go hF k ps ds h⟩
  | .lst ps, _, ⟨r, xs, e, hr, hx, h⟩ => ⟨r, xs, e, hF r hr, k.get hr hx, frs_go hF k ps xs h⟩
  | .scr ps, _, ⟨r, xs, e, hr, hx, h⟩ => ⟨r, xs, e, hF r hr, k.get hr hx, frs_go hF k ps xs h⟩
  | .dct _ _, _, h => h
  | .ins _ _ _, _, h => h
theorem frs_go (hF : ∀ r, F r → F' r) (k : Kp g g' F) : ∀ (ps : List P) (ds : List D), frs g F ps ds → frs g' F' ps ds
  | [], _, h => h
  | p :: ps, _, ⟨d, r, e, h1, h2⟩ => ⟨d, r, e, fr_go hF k p d h1, frs_go hF k ps r h2⟩
end
mutual
theorem rl_go (hF : ∀ r, F r → F' r) (k : Kp g g' F) : ∀ (u : U) (d : D) (A : List Nat), Kp g g' (· ∈ A) → rl g F u d A → rl g' F' u d A
  | .fz p, d, _, _, ⟨h, e⟩ => ⟨fr_go hF k p d h, e⟩
  | .own ps, _, _, kA, ⟨r, xs, e, hx, h, eA⟩ => ⟨r, xs, e, kA.get (by rw [eA]; simp) hx, frs_go hF k ps xs h, eA⟩
  | .tup us, _, A, kA, ⟨ds, e, h⟩ => ⟨ds, e, rls_go hF k us ds A kA h⟩
  | .nst us, _, _, kA, ⟨r, xs, B, e, hx, h, eA⟩ => ⟨r, xs, B, e, kA.get (by rw [eA]; simp) hx, rls_go hF k us xs B (kA.mono fun x hx => by rw [eA]; simp [hx]) h, eA⟩
theorem rls_go (hF : ∀ r, F r → F' r) (k : Kp g g' F) : ∀ (us : List U) (ds : List D) (A : List Nat), Kp g g' (· ∈ A) → rls g F us ds A → rls g' F' us ds A
  | [], _, _, _, h => h
  | u :: us, _, _, kA, ⟨d, r, B, C, e, h1, h2, eA⟩ => ⟨d, r, B, C, e, rl_go hF k u d B (kA.mono fun x hx => by rw [eA]; simp [hx]) h1, rls_go hF k us r C (kA.mono fun x hx => by rw [eA]; simp [hx]) h2, eA⟩
end
mutual
/-- what is owned is frozen -/
theorem rl_fr : ∀ (u : U) (d : D) (A : List Nat), rl g F u d A → fr g (fun r => F r ∨ r ∈ A) u.toP d
  | .fz p, d, _, ⟨h, _⟩ => fr_go (fun _ h => .inl h) Kp.rfl' p d h
  | .own ps, _, _, ⟨r, xs, e, hx, h, eA⟩ => ⟨r, xs, e, .inr (by rw [eA]; simp), hx, frs_go (fun _ h => .inl h) Kp.rfl' ps xs h⟩
  | .tup us, _, A, ⟨ds, e, h⟩ => ⟨ds, e, rls_frs us ds A h⟩
  | .nst us, _, _, ⟨r, xs, B, e, hx, h, eA⟩ => ⟨r, xs, e, .inr (by rw [eA]; simp), hx, frs_go (fun _ h => h.elim .inl fun h => .inr (by rw [eA]; simp [h])) Kp.rfl' _ xs (rls_frs us xs B h)⟩
theorem rls_frs : ∀ (us : List U) (ds : List D) (A : List Nat), rls g F us ds A → frs g (fun r => F r ∨ r ∈ A) (U.toPs us) ds
  | [], _, _, h => h.1
  | u :: us, _, _, ⟨d, r, B, C, e, h1, h2, eA⟩ => ⟨d, r, e, fr_go (fun _ h => h.elim .inl fun h => .inr (by rw [eA]; simp [h])) Kp.rfl' _ d (rl_fr u d B h1), frs_go (fun _ h => h.elim .inl fun h => .inr (by rw [eA]; simp [h])) Kp.rfl' _ r (rls_frs us r C h2)⟩
end
mutual
theorem fr_flat : ∀ (p : P) (d : D), p.flat = true → fr g F p d → fr g' F' p d
  | .non, _, _, h => h
  | .bl _, _, _, h => h
  | .int _, _, _, h => h
  | .str _, _, _, h => h
  | .tup ps, _, z, ⟨ds, e, h⟩ => ⟨ds, e, frs_flat ps ds z h⟩
  | .lst ps, _, z, _ => by cases z
  | .scr ps, _, z, _ => by cases z
  | .dct _ _, _, z, _ => by cases z
  | .ins _ _ _, _, z, _ => by cases z
theorem frs_flat : ∀ (ps : List P) (ds : List D), P.flat.flats ps = true → frs g F ps ds → frs g' F' ps ds
  | [], _, _, h => h
  | p :: ps, _, z, ⟨d, r, e, h1, h2⟩ => by
    simp only [P.flat.flats, Bool.and_eq_true] at z
    exact ⟨d, r, e, fr_flat p d z.1 h1, frs_flat ps r z.2 h2⟩
end
mutual
theorem rl_nr : ∀ (u : U) (d : D) (A : List Nat), u.nr = true → Kp g g' (· ∈ A) → rl g F u d A → rl g' F' u d A
  | .fz p, d, _, z, _, ⟨h, e⟩ => ⟨fr_flat p d z h, e⟩
  | .own ps, _, _, z, kA, ⟨r, xs, e, hx, h, eA⟩ => ⟨r, xs, e, kA.get (by rw [eA]; simp) hx, frs_flat ps xs z h, eA⟩
  | .tup us, _, A, z, kA, ⟨ds, e, h⟩ => ⟨ds, e, rls_nr us ds A z kA h⟩
  | .nst us, _, _, z, kA, ⟨r, xs, B, e, hx, h, eA⟩ => ⟨r, xs, B, e, kA.get (by rw [eA]; simp) hx, rls_nr us xs B z (kA.mono fun x hx => by rw [eA]; simp [hx]) h, eA⟩
theorem rls_nr : ∀ (us : List U) (ds : List D) (A : List Nat), U.nr.nrs us = true → Kp g g' (· ∈ A) → rls g F us ds A → rls g' F' us ds A
  | [], _, _, _, _, h => h
  | u :: us, _, _, z, kA, ⟨d, r, B, C, e, h1, h2, eA⟩ => by
    simp only [U.nr.nrs, Bool.and_eq_true] at z
    exact ⟨d, r, B, C, e, rl_nr u d B z.1 (kA.mono fun x hx => by rw [eA]; simp [hx]) h1, rls_nr us r C z.2 (kA.mono fun x hx => by rw [eA]; simp [hx]) h2, eA⟩
end
/-! ### places lie in the store -/
mutual
theorem rl_lt : ∀ (u : U) (d : D) (A : List Nat), rl g F u d A → ∀ a ∈ A, a < g.length
  | .fz p, d, _, ⟨_, e⟩, a, ha => by rw [e] at ha; cases ha
  | .own ps, _, _, ⟨r, xs, e, hx, h, eA⟩, a, ha => by rw [eA] at ha; cases List.mem_singleton.mp ha; exact (List.getElem?_eq_some_iff.mp hx).1
  | .tup us, _, A, ⟨ds, e, h⟩, a, ha => rls_lt us ds A h a ha
  | .nst us, _, _, ⟨r, xs, B, e, hx, h, eA⟩, a, ha => by
    rw [eA] at ha
    rcases List.mem_cons.mp ha with e | ha
    · rw [e]; exact (List.getElem?_eq_some_iff.mp hx).1
    · exact rls_lt us xs B h a ha
theorem rls_lt : ∀ (us : List U) (ds : List D) (A : List Nat), rls g F us ds A → ∀ a ∈ A, a < g.length
  | [], _, _, h, a, ha => by rw [h.2] at ha; cases ha
  | u :: us, _, _, ⟨d, r, B, C, e, h1, h2, eA⟩, a, ha => by
    rw [eA] at ha
    rcases List.mem_append.mp ha with ha | ha
    · exact rl_lt u d B h1 a ha
    · exact rls_lt us r C h2 a ha
end
/-! ### lists of trees -/
theorem frs_len : ∀ {ps : List P} {ds : List D}, frs g F ps ds → ds.length = ps.length
  | [], _, h => by rw [h]; rfl
  | p :: ps, _, ⟨d, r, e, _, h⟩ => by rw [e, List.length_cons, List.length_cons, frs_len h]
theorem rls_len : ∀ {us : List U} {ds : List D} {A : List Nat}, rls g F us ds A → ds.length = us.length
  | [], _, _, h => by rw [h.1]; rfl
  | p :: ps, _, _, ⟨d, r, B, C, e, _, h, _⟩ => by rw [e, List.length_cons, List.length_cons, rls_len h]
theorem toPs_map : ∀ us : List U, U.toPs us = us.map U.toP
  | [] => rfl
  | u :: us => by rw [U.toPs, toPs_map us]; rfl
@[simp] theorem toP_fz (p : P) : (U.fz p).toP = p := by simp [U.toP]
@[simp] theorem toP_own (ps : List P) : (U.own ps).toP = .lst ps := by simp [U.toP]
@[simp] theorem toP_tup (us : List U) : (U.tup us).toP = .tup (us.map U.toP) := by simp [U.toP, toPs_map]
@[simp] theorem toP_nst (us : List U) : (U.nst us).toP = .lst (us.map U.toP) := by simp [U.toP, toPs_map]
theorem frs_get : ∀ {ps : List P} {ds : List D} {i : Nat}, frs g F ps ds → (∃ p d, ps[i]? = some p ∧ ds[i]? = some d ∧ fr g F p d) ∨ (ps[i]? = none ∧ ds[i]? = none)
  | [], _, i, h => by rw [h]; exact .inr ⟨rfl, rfl⟩
  | p :: ps, _, 0, ⟨d, r, e, h, _⟩ => by rw [e]; exact .inl ⟨p, d, rfl, rfl, h⟩
  | p :: ps, _, i + 1, ⟨d, r, e, _, h⟩ => by
    rw [e]
    simpa using frs_get (i := i) h
theorem frs_append : ∀ {ps qs : List P} {ds es : List D}, frs g F ps ds → frs g F qs es → frs g F (ps ++ qs) (ds ++ es)
  | [], _, _, _, h, h' => by rw [h]; exact h'
  | p :: ps, _, _, _, ⟨d, r, e, h1, h2⟩, h' => by rw [e]; exact ⟨d, _, rfl, h1, frs_append h2 h'⟩
theorem frs_one {p : P} {d : D} (h : fr g F p d) : frs g F [p] [d] := ⟨d, [], rfl, h, rfl⟩
theorem frs_snoc {ps : List P} {ds : List D} {p : P} {d : D} (h : frs g F ps ds) (h' : fr g F p d) : frs g F (ps ++ [p]) (ds ++ [d]) := frs_append h (frs_one h')
theorem frs_drop : ∀ {ps : List P} {ds : List D} (n : Nat), frs g F ps ds → frs g F (ps.drop n) (ds.drop n)
  | _, _, 0, h => h
  | [], _, n + 1, h => by rw [h]; rfl
  | p :: ps, _, n + 1, ⟨d, r, e, _, h⟩ => by rw [e]; exact frs_drop n h
theorem frs_take : ∀ {ps : List P} {ds : List D} (n : Nat), frs g F ps ds → frs g F (ps.take n) (ds.take n)
  | _, _, 0, h => by simp [frs]
  | [], _, n + 1, h => by rw [h]; rfl
  | p :: ps, _, n + 1, ⟨d, r, e, h1, h⟩ => by rw [e]; exact ⟨d, _, rfl, h1, frs_take n h⟩
theorem frs_set : ∀ {ps : List P} {ds : List D} {p : P} {d : D} (i : Nat), frs g F ps ds → fr g F p d → frs g F (ps.set i p) (ds.set i d)
  | [], _, _, _, _, h, _ => by rw [h]; rfl
  | q :: ps, _, p, d, 0, ⟨d', r, e, _, h⟩, h' => by rw [e]; exact ⟨d, r, rfl, h', h⟩
  | q :: ps, _, p, d, i + 1, ⟨d', r, e, h1, h⟩, h' => by rw [e]; exact ⟨d', _, rfl, h1, frs_set i h h'⟩
theorem frs_of_get : ∀ {ps : List P} {ds : List D}, ds.length = ps.length → (∀ (i : Nat) (p : P) (d : D), ps[i]? = some p → ds[i]? = some d → fr g F p d) → frs g F ps ds
  | [], ds, h, _ => List.eq_nil_of_length_eq_zero h
  | p :: ps, d :: ds, h, q => ⟨d, ds, rfl, q 0 p d rfl rfl, frs_of_get (by simpa using h) fun i p d h1 h2 => q (i + 1) p d (by simpa using h1) (by simpa using h2)⟩
theorem frs_mem {ps : List P} {ds : List D} {d : D} (h : frs g F ps ds) (hd : d ∈ ds) : ∃ p ∈ ps, fr g F p d := by
  obtain ⟨i, hi⟩ := List.mem_iff_getElem?.mp hd
  rcases frs_get (i := i) h with ⟨p, d', h1, h2, h3⟩ | ⟨_, h2⟩
  · rw [hi] at h2; cases h2; exact ⟨p, List.mem_of_getElem? h1, h3⟩
  · rw [hi] at h2; cases h2
theorem fr_1 {p : P} {d : D} (h : fr g F p d) : fr1 g F p d := by
  cases p <;> first | exact h | (obtain ⟨r, xs, e, _, hx, h⟩ := h; exact ⟨r, xs, e, hx, h⟩)
theorem fr1_up (hF : ∀ r, F r → F' r) {p : P} {d : D} (h : fr1 g F p d) : fr1 g F' p d := by
  cases p <;> first | exact fr_go hF Kp.rfl' _ _ h | (obtain ⟨r, xs, e, hx, h⟩ := h; exact ⟨r, xs, e, hx, frs_go hF Kp.rfl' _ _ h⟩)
end
mutual
/-- nested at most n deep -/
def P.le : Nat → P → Bool
  | 0, .tup _ => false
  | 0, .lst _ => false
  | n + 1, .tup ps => P.les n ps
  | n + 1, .lst ps => P.les n ps
  | _, .scr _ => false
  | _, .dct _ _ => false
  | _, .ins _ _ _ => false
  | _, _ => true
def P.les : Nat → List P → Bool
  | _, [] => true
  | n, p :: r => P.le n p && P.les n r
end
theorem les_mem {n : Nat} : ∀ {ps : List P}, P.les n ps = true ↔ ∀ p ∈ ps, p.le n = true
  | [] => by simp [P.les]
  | p :: r => by simp [P.les, les_mem (ps := r)]
mutual
theorem fr_viewN {g : G} {F : Fz} : ∀ (n : Nat) (p : P) (d : D), p.le n = true → fr g F p d → view g n d = some p
  | n, .non, d, _, h => by rw [h]; simp [view]
  | n, .bl b, d, _, h => by rw [h]; simp [view]
  | n, .int i, d, _, h => by rw [h]; simp [view]
  | n, .str s, d, _, h => by rw [h]; simp [view]
  | 0, .tup ps, d, z, _ => by simp [P.le] at z
  | 0, .lst ps, d, z, _ => by simp [P.le] at z
  | n + 1, .tup ps, d, z, ⟨ds, e, h⟩ => by
    simp only [P.le] at z
    rw [e]; simp [view, frs_viewN n ps ds z h]
  | n + 1, .lst ps, d, z, ⟨r, xs, e, _, hx, h⟩ => by
    simp only [P.le] at z
    rw [e]; simp [view, lstOf_lst hx, frs_viewN n ps xs z h]
  | n, .scr ps, d, z, _ => by cases n <;> simp [P.le] at z
  | n, .dct _ _, d, z, _ => by cases n <;> simp [P.le] at z
  | n, .ins _ _ _, d, z, _ => by cases n <;> simp [P.le] at z
theorem frs_viewN {g : G} {F : Fz} : ∀ (n : Nat) (ps : List P) (ds : List D), P.les n ps = true → frs g F ps ds → viewL (view g n) ds = some ps
  | n, [], ds, _, h => by rw [h]; rfl
  | n, p :: ps, ds, z, ⟨d, r, e, h1, h2⟩ => by
    simp only [P.les, Bool.and_eq_true] at z
    rw [e]
    exact viewL_cons.mpr ⟨p, ps, rfl, fr_viewN n p d z.1 h1, frs_viewN n ps r z.2 h2⟩
end
theorem fr1_viewN {g : G} {F : Fz} {n : Nat} {p : P} {d : D} (z : p.le n = true) (h : fr1 g F p d) : view g n d = some p := by
  cases p with
  | lst ps =>
    obtain ⟨r, xs, e, hx, h⟩ := h
    exact fr_viewN (F := fun _ => True) n _ d z ⟨r, xs, e, trivial, hx, frs_go (fun _ _ => trivial) Kp.rfl' _ _ h⟩
  | _ => exact fr_viewN (F := F) n _ d z h
end Py
end

section
set_option autoImplicit false
set_option linter.all false
/-! States: slots and what they own; steps; frames. -/
namespace Py
abbrev VEnv := List (Option U)
abbrev Own := Nat → List Nat
/-- an exception in hand: its slot, where it is told to stand, its fields -/
structure Pin where
  i : Nat
  a : Nat
  b : Nat
  r : Option Nat
  fs : Option (List (String × P))
abbrev Ctx := List Pin
def pinR (g : G) (F : Fz) (ρ : Env) (q : Pin) : Prop := ρ[q.i]? = some (some (.adr q.a)) ∧ match q.r, q.fs with
  | none, none => True
  | some r, some fs => F r ∧ ∃ ds, g[r]? = some (.xda q.b ds) ∧ ds.map Prod.fst = fs.map Prod.fst ∧ frs g F (fs.map Prod.snd) (ds.map Prod.snd)
  | _, _ => False
structure env (Cx : Ctx) (g : G) (F : Fz) (σ : VEnv) (ρ : Env) (As : Own) : Prop where
  len : σ.length = ρ.length
  at_ : ∀ (i : Nat) (u : U), σ[i]? = some (some u) → ∃ d, ρ[i]? = some (some d) ∧ rl g F u d (As i)
  pins : ∀ q, q ∈ Cx → pinR g F ρ q
/-- what is owned: by slots, by what is in hand -/
def ow (As : Own) (B : List Nat) (a : Nat) : Prop := a ∈ B ∨ ∃ i, a ∈ As i
structure Iv (g : G) (F : Fz) (As : Own) (B : List Nat) : Prop where
  fb : ∀ a, F a → a < g.length
  ndB : B.Nodup
  nd : ∀ i, (As i).Nodup
  dj : ∀ i j a, a ∈ As i → a ∈ As j → i = j
  djB : ∀ i a, a ∈ As i → a ∉ B
  nf : ∀ a, ow As B a → ¬ F a
  lt : ∀ a, ow As B a → a < g.length
structure Sp (g : G) (F : Fz) (W : Nat → Prop) (g' : G) (F' : Fz) (W' : Nat → Prop) : Prop where
  len : g.length ≤ g'.length
  keep : ∀ i, i < g.length → ¬ W i → g'[i]? = g[i]?
  mono : ∀ i, F i → F' i
  back : ∀ i, F' i → F i ∨ W i ∨ g.length ≤ i
  ow : ∀ i, W' i → W i ∨ g.length ≤ i
def upO (As : Own) (i : Nat) (B : List Nat) : Own := fun j => if j = i then B else As j
section
variable {Cx : Ctx} {g g' g2 : G} {F F' F2 : Fz} {As As' : Own} {B C : List Nat} {σ σ' : VEnv} {ρ ρ' : Env} {u : U} {us : List U} {d : D} {ds : List D} {i : Nat} {W W' W2 : Nat → Prop}
theorem Sp.refl (g : G) (F : Fz) (W : Nat → Prop) : Sp g F W g F W := ⟨Nat.le_refl _, fun _ _ _ => rfl, fun _ => id, fun _ => .inl, fun _ => .inl⟩
theorem Sp.trans (x : Sp g F W g' F' W') (y : Sp g' F' W' g2 F2 W2) : Sp g F W g2 F2 W2 where
  len := Nat.le_trans x.len y.len
  keep i h hw := (y.keep i (Nat.lt_of_lt_of_le h x.len) fun z => (x.ow i z).elim hw fun z => by omega).trans (x.keep i h hw)
  mono i h := y.mono i (x.mono i h)
  back i h := by
    rcases y.back i h with z | z | z
    · exact x.back i z
    · rcases x.ow i z with z | z
      · exact .inr (.inl z)
      · exact .inr (.inr z)
    · exact .inr (.inr (Nat.le_trans x.len z))
  ow i h := by
    rcases y.ow i h with z | z
    · exact x.ow i z
    · exact .inr (Nat.le_trans x.len z)
/-- fewer owned to begin with is more said -/
theorem Sp.wk (x : Sp g F W g' F' W') (h : ∀ i, W i → W2 i) : Sp g F W2 g' F' W' := ⟨x.len, fun i hi hw => x.keep i hi fun z => hw (h i z), x.mono, fun i hi => (x.back i hi).imp id (Or.imp (h i) id), fun i hi => (x.ow i hi).imp (h i) id⟩
theorem Sp.less (x : Sp g F W g' F' W') (h : ∀ i, W2 i → W' i) : Sp g F W g' F' W2 := ⟨x.len, x.keep, x.mono, x.back, fun i hi => x.ow i (h i hi)⟩
theorem Iv.none (x : Iv g F As B) : Iv g F As [] := ⟨x.fb, List.nodup_nil, x.nd, x.dj, fun _ _ _ h => (by cases h), fun a h => x.nf a (h.elim (fun h => by cases h) .inr), fun a h => x.lt a (h.elim (fun h => by cases h) .inr)⟩
theorem Iv.sub (x : Iv g F As B) (h : ∀ a, a ∈ C → a ∈ B) (nd : C.Nodup) : Iv g F As C := ⟨x.fb, nd, x.nd, x.dj, fun i a ha hc => x.djB i a ha (h a hc), fun a ha => x.nf a (ha.imp (h a) id), fun a ha => x.lt a (ha.imp (h a) id)⟩
theorem ow_nil {a : Nat} (h : ow As [] a) : ow As B a := h.elim (fun h => by cases h) .inr
/-- what is in hand stays, whatever a step does that knows nothing of it -/
theorem frame (x : Iv g F As C) (s : Sp g F (ow As []) g' F' (ow As' B)) (y : Iv g' F' As' B) : Kp g g' F ∧ Kp g g' (· ∈ C) ∧ Iv g' F' As' (C ++ B) ∧ Sp g F (ow As C) g' F' (ow As' (C ++ B)) := by
  have key : ∀ a, a ∈ C → ¬ ow As [] a := fun a ha h => h.elim (fun h => by cases h) fun ⟨i, h⟩ => x.djB i a h ha
  have new : ∀ a, a ∈ C → ¬ ow As' B a := fun a ha h => (s.ow a h).elim (key a ha) fun h => by have := x.lt a (.inl ha); omega
  refine ⟨Kp.of_eq fun r hr hl => s.keep r hl fun h => x.none.nf r h hr, Kp.of_eq fun r hr hl => s.keep r hl (key r hr), ⟨y.fb, ?_, y.nd, y.dj, ?_, ?_, ?_⟩, ?_⟩
  · exact List.nodup_append.mpr ⟨x.ndB, y.ndB, fun a ha b hb e => new a ha (.inl (e ▸ hb))⟩
  · intro i a ha h
    rcases List.mem_append.mp h with h | h
    · exact new a h (.inr ⟨i, ha⟩)
    · exact y.djB i a ha h
  · intro a ha hf
    rcases ha with ha | ha
    · rcases List.mem_append.mp ha with h | h
      · rcases s.back a hf with z | z | z
        · exact x.nf a (.inl h) z
        · exact key a h z
        · have := x.lt a (.inl h); omega
      · exact y.nf a (.inl h) hf
    · exact y.nf a (.inr ha) hf
  · intro a ha
    rcases ha with ha | ha
    · rcases List.mem_append.mp ha with h | h
      · exact Nat.lt_of_lt_of_le (x.lt a (.inl h)) s.len
      · exact y.lt a (.inl h)
    · exact y.lt a (.inr ha)
  · refine ⟨s.len, fun i hi hw => s.keep i hi fun z => hw (ow_nil z), s.mono, fun i hi => (s.back i hi).imp id (Or.imp ow_nil id), fun i hi => ?_⟩
    rcases hi with hi | hi
    · rcases List.mem_append.mp hi with h | h
      · exact .inl (.inl h)
      · exact (s.ow i (.inl h)).imp ow_nil id
    · exact (s.ow i (.inr hi)).imp ow_nil id
theorem pinR_go {q : Pin} (hF : ∀ r, F r → F' r) (k : Kp g g' F) (h : pinR g F ρ q) : pinR g' F' ρ q := by
  refine ⟨h.1, ?_⟩
  have h2 := h.2
  split at h2
  · trivial
  · obtain ⟨hr, ds, e, e2, e3⟩ := h2
    exact ⟨hF _ hr, ds, k.get hr e, e2, frs_go hF k _ _ e3⟩
  · exact h2.elim
theorem pinR_rho {q : Pin} (e : ρ'[q.i]? = ρ[q.i]?) (h : pinR g F ρ q) : pinR g F ρ' q := ⟨by rw [e]; exact h.1, h.2⟩
theorem env_go (h : env Cx g F σ ρ As) (hF : ∀ r, F r → F' r) (k : Kp g g' F) (kA : Kp g g' (fun a => ∃ i, a ∈ As i)) : env Cx g' F' σ ρ As := ⟨h.1, fun i u hu => by
  obtain ⟨d, hd, hr⟩ := h.2 i u hu
  exact ⟨d, hd, rl_go hF k u d _ (kA.mono fun a ha => ⟨i, ha⟩) hr⟩, fun q hq => pinR_go hF k (h.pins q hq)⟩
theorem env_nil (h : env Cx g F σ ρ As) : env [] g F σ ρ As := ⟨h.1, h.2, fun _ h => by cases h⟩
theorem env_pins (h0 : env Cx g F σ ρ As) (hF : ∀ r, F r → F' r) (k : Kp g g' F) (h : env [] g' F' σ' ρ As') : env Cx g' F' σ' ρ As' := ⟨h.1, h.2, fun q hq => pinR_go hF k (h0.pins q hq)⟩
/-- what is in hand is frozen -/
theorem frz_hand (x : Iv g F As B) (h : env Cx g F σ ρ As) : Iv g (fun r => F r ∨ r ∈ B) As [] ∧ env Cx g (fun r => F r ∨ r ∈ B) σ ρ As ∧ Sp g F (ow As B) g (fun r => F r ∨ r ∈ B) (ow As []) := by
  refine ⟨⟨fun a ha => ha.elim (x.fb a) fun h => x.lt a (.inl h), List.nodup_nil, x.nd, x.dj, fun _ _ _ h => (by cases h), fun a ha hf => ?_, fun a ha => x.lt a (ow_nil ha)⟩, env_go h (fun _ => .inl) Kp.rfl' Kp.rfl', Nat.le_refl _, fun _ _ _ => rfl, fun _ => .inl, fun i hi => hi.imp id fun h => .inl (.inl h), fun i hi => .inl (ow_nil hi)⟩
  rcases hf with hf | hf
  · exact x.nf a (ow_nil ha) hf
  · rcases ha with ha | ⟨i, ha⟩
    · cases ha
    · exact x.djB i a ha hf
theorem kp_grow {t : List O} {X : Nat → Prop} : Kp g (g ++ t) X := Kp.of_eq fun r _ hl => List.getElem?_append_left hl
/-- new objects, some of them in hand -/
theorem grow {t : List O} (x : Iv g F As []) (h : env Cx g F σ ρ As) (nd : B.Nodup) (hB : ∀ b ∈ B, g.length ≤ b ∧ b < (g ++ t).length) : Iv (g ++ t) F As B ∧ env Cx (g ++ t) F σ ρ As ∧ Sp g F (ow As []) (g ++ t) F (ow As B) := by
  refine ⟨⟨fun a ha => by have := x.fb a ha; simp; omega, nd, x.nd, x.dj, fun i a ha hb => ?_, fun a ha hf => ?_, fun a ha => ?_⟩, env_go h (fun _ => id) kp_grow kp_grow, by simp, fun i hi _ => List.getElem?_append_left hi, fun _ => id, fun _ => .inl, fun i hi => ?_⟩
  · have := x.lt a (.inr ⟨i, ha⟩); have := (hB a hb).1; omega
  · rcases ha with ha | ha
    · have := x.fb a hf; have := (hB a ha).1; omega
    · exact x.nf a (.inr ha) hf
  · rcases ha with ha | ha
    · exact (hB a ha).2
    · have := x.lt a (.inr ha); simp; omega
  · rcases hi with hi | hi
    · exact .inr (hB i hi).1
    · exact .inl (.inr hi)
theorem upO_at : upO As i B i = B := by simp [upO]
theorem upO_ne {j : Nat} (h : j ≠ i) : upO As i B j = As j := by simp [upO, h]
theorem upO_mem {j a : Nat} (h : a ∈ upO As i B j) : (j = i ∧ a ∈ B) ∨ (j ≠ i ∧ a ∈ As j) := by
  by_cases e : j = i
  · subst e; rw [upO_at] at h; exact .inl ⟨rfl, h⟩
  · rw [upO_ne e] at h; exact .inr ⟨e, h⟩
/-- slot i takes what is in hand -/
theorem Iv.set (x : Iv g F As B) : Iv g F (upO As i B) [] := by
  refine ⟨x.fb, List.nodup_nil, fun j => ?_, fun j k a hj hk => ?_, fun _ _ _ h => (by cases h), fun a ha => ?_, fun a ha => ?_⟩
  · by_cases e : j = i
    · subst e; rw [upO_at]; exact x.ndB
    · rw [upO_ne e]; exact x.nd j
  · rcases upO_mem hj with ⟨e1, h1⟩ | ⟨e1, h1⟩ <;> rcases upO_mem hk with ⟨e2, h2⟩ | ⟨e2, h2⟩
    · rw [e1, e2]
    · exact absurd h1 (x.djB _ _ h2)
    · exact absurd h2 (x.djB _ _ h1)
    · exact x.dj _ _ _ h1 h2
  · rcases ha with ha | ⟨j, ha⟩
    · cases ha
    · rcases upO_mem ha with ⟨_, h⟩ | ⟨_, h⟩
      · exact x.nf a (.inl h)
      · exact x.nf a (.inr ⟨j, h⟩)
  · rcases ha with ha | ⟨j, ha⟩
    · cases ha
    · rcases upO_mem ha with ⟨_, h⟩ | ⟨_, h⟩
      · exact x.lt a (.inl h)
      · exact x.lt a (.inr ⟨j, h⟩)
theorem ow_set {a : Nat} (h : ow (upO As i B) [] a) : ow As B a := by
  rcases h with h | ⟨j, h⟩
  · cases h
  · rcases upO_mem h with ⟨_, h⟩ | ⟨_, h⟩
    · exact .inl h
    · exact .inr ⟨j, h⟩
theorem env_put (h : env Cx g F σ ρ As) (hd : ρ[i]? = some (some d)) (hu : rl g F u d B) : env Cx g F (σ.set i (some u)) ρ (upO As i B) := by
  refine ⟨by simp [h.1], fun j w hw => ?_, h.pins⟩
  by_cases e : j = i
  · subst e
    have hl : j < σ.length := by have := (List.getElem?_eq_some_iff.mp hw).1; simpa using this
    rw [List.getElem?_set_self hl] at hw
    cases hw
    exact ⟨d, hd, by rw [upO_at]; exact hu⟩
  · rw [List.getElem?_set_ne (Ne.symm e)] at hw
    rw [upO_ne e]
    exact h.2 j w hw
theorem env_set (h : env [] g F σ ρ As) (hu : rl g F u d B) : env [] g F (σ.set i (some u)) (ρ.set i (some d)) (upO As i B) := by
  refine ⟨by simp [h.1], fun j w hw => ?_, fun _ h => by cases h⟩
  by_cases e : j = i
  · subst e
    have hl : j < σ.length := by have := (List.getElem?_eq_some_iff.mp hw).1; simpa using this
    rw [List.getElem?_set_self hl] at hw
    cases hw
    exact ⟨d, List.getElem?_set_self (by rw [← h.1]; exact hl), by rw [upO_at]; exact hu⟩
  · rw [List.getElem?_set_ne (Ne.symm e)] at hw ⊢
    rw [upO_ne e]
    exact h.2 j w hw
theorem env_kill (h : env Cx g F σ ρ As) : env Cx g F (σ.set i none) ρ (upO As i []) := by
  refine ⟨by simp [h.1], fun j w hw => ?_, h.pins⟩
  by_cases e : j = i
  · subst e
    have hl : j < σ.length := by have := (List.getElem?_eq_some_iff.mp hw).1; simpa using this
    rw [List.getElem?_set_self hl] at hw
    cases hw
  · rw [List.getElem?_set_ne (Ne.symm e)] at hw
    rw [upO_ne e]
    exact h.2 j w hw
/-- slot i's own goes to the hand -/
theorem Iv.take (x : Iv g F As []) : Iv g F (upO As i []) (As i) := by
  refine ⟨x.fb, x.nd i, fun j => ?_, fun j k a hj hk => ?_, fun j a ha hb => ?_, fun a ha => ?_, fun a ha => ?_⟩
  · by_cases e : j = i
    · subst e; rw [upO_at]; exact List.nodup_nil
    · rw [upO_ne e]; exact x.nd j
  · rcases upO_mem hj with ⟨e1, h1⟩ | ⟨e1, h1⟩
    · cases h1
    · rcases upO_mem hk with ⟨e2, h2⟩ | ⟨e2, h2⟩
      · cases h2
      · exact x.dj _ _ _ h1 h2
  · rcases upO_mem ha with ⟨_, h⟩ | ⟨e, h⟩
    · cases h
    · exact e (x.dj _ _ _ h hb)
  · refine x.nf a ?_
    rcases ha with ha | ⟨j, ha⟩
    · exact .inr ⟨i, ha⟩
    · rcases upO_mem ha with ⟨_, h⟩ | ⟨_, h⟩
      · cases h
      · exact .inr ⟨j, h⟩
  · refine x.lt a ?_
    rcases ha with ha | ⟨j, ha⟩
    · exact .inr ⟨i, ha⟩
    · rcases upO_mem ha with ⟨_, h⟩ | ⟨_, h⟩
      · cases h
      · exact .inr ⟨j, h⟩
theorem ow_take {a : Nat} (h : ow (upO As i []) (As i) a) : ow As [] a := by
  rcases h with h | ⟨j, h⟩
  · exact .inr ⟨i, h⟩
  · rcases upO_mem h with ⟨_, h⟩ | ⟨_, h⟩
    · cases h
    · exact .inr ⟨j, h⟩
theorem upO_upO : upO (upO As i B) i C = upO As i C := by
  funext j
  by_cases e : j = i <;> simp [upO, e]
/-- a slot is frozen where it stands -/
theorem frz_slot (x : Iv g F As []) (h : env Cx g F σ ρ As) (hu : σ[i]? = some (some u)) : Iv g (fun r => F r ∨ r ∈ As i) (upO As i []) [] ∧ env Cx g (fun r => F r ∨ r ∈ As i) (σ.set i (some (.fz u.toP))) ρ (upO As i []) ∧ Sp g F (ow As []) g (fun r => F r ∨ r ∈ As i) (ow (upO As i []) []) ∧ ∃ d, ρ[i]? = some (some d) ∧ fr g (fun r => F r ∨ r ∈ As i) u.toP d := by
  obtain ⟨d, hd, hr⟩ := h.2 i u hu
  have hf := rl_fr u d _ hr
  obtain ⟨a, b, c⟩ := frz_hand (x.take (i := i)) (env_kill (i := i) h)
  refine ⟨a, ?_, ?_, d, hd, hf⟩
  · have := env_put (i := i) (u := .fz u.toP) (B := []) b hd ⟨hf, rfl⟩
    rw [List.set_set, upO_upO] at this
    exact this
  · exact c.wk fun _ => ow_take
end
end Py
end

section
set_option autoImplicit false
set_option linter.all false
/-! Expressions and tests: each with its reading over the store, its reading over trees, and the proof that the second tells the first. -/
namespace Py
/-- in hand: a tree; a loan of slot i -/
inductive X where
  | u (u : U) | ln (i : Nat)
structure VX where
  cls : String
  fs : Option (List (String × P))
inductive VR (α : Type) where
  | ok (a : α) (σ : VEnv) | exc (x : VX) (σ : VEnv) | bad
def VR.bind {α β : Type} (r : VR α) (f : α → VEnv → VR β) : VR β := match r with | .ok a σ => f a σ | .exc x σ => .exc x σ | .bad => .bad
@[simp] theorem VR.bind_ok {α β : Type} (a : α) (σ : VEnv) (f : α → VEnv → VR β) : (VR.ok a σ).bind f = f a σ := rfl
@[simp] theorem VR.bind_exc {α β : Type} (a : VX) (σ : VEnv) (f : α → VEnv → VR β) : (VR.exc a σ).bind f = .exc a σ := rfl
@[simp] theorem VR.bind_bad {α β : Type} (f : α → VEnv → VR β) : (VR.bad).bind f = .bad := rfl
abbrev VM := VEnv → VR X
abbrev VT := VEnv → VR Bool
abbrev VA := VEnv → VR (List X)
def rx (g : G) (F : Fz) (ρ : Env) : X → D → List Nat → Prop
  | .u u, d, B => rl g F u d B
  | .ln i, d, B => ρ[i]? = some (some d) ∧ B = []
def rxs (g : G) (F : Fz) (ρ : Env) : List X → List D → List Nat → Prop
  | [], ds, B => ds = [] ∧ B = []
  | x :: xs, ds, B => ∃ d r C E, ds = d :: r ∧ rx g F ρ x d C ∧ rxs g F ρ xs r E ∧ B = C ++ E
/-- an exception -/
def xr (g : G) (F : Fz) (x : VX) (e : Exc) : Prop := e.cls = x.cls ∧ match x.fs, e.at_ with
  | none, none => True
  | some fs, some r => F r ∧ ∃ ds, g[r]? = some (.xd ds) ∧ ds.map Prod.fst = fs.map Prod.fst ∧ frs g F (fs.map Prod.snd) (ds.map Prod.snd)
  | _, _ => False
structure Oke (Cx : Ctx) (g : G) (F : Fz) (As : Own) (ρ : Env) (g' : G) (F' : Fz) (σ' : VEnv) (As' : Own) (B : List Nat) : Prop where
  env : env Cx g' F' σ' ρ As'
  iv : Iv g' F' As' B
  sp : Sp g F (ow As []) g' F' (ow As' B)
def SimV (Cx : Ctx) {β γ : Type} (Rel : G → Fz → β → γ → List Nat → Prop) (g : G) (F : Fz) (As : Own) (ρ : Env) (rg : R γ) (rv : VR β) : Prop := match rv with
  | .ok b σ' => ∃ c g' F' As' B, rg = .ok c g' ∧ Rel g' F' b c B ∧ Oke Cx g F As ρ g' F' σ' As' B
  | .exc x σ' => ∃ e g' F' As', rg = .exc e g' ∧ xr g' F' x e ∧ Oke Cx g F As ρ g' F' σ' As' []
  | .bad => True
def SimE (Cx : Ctx) (m : M) (v : VM) : Prop := ∀ (ρ : Env) (σ : VEnv) (g : G) (F : Fz) (As : Own), env Cx g F σ ρ As → Iv g F As [] → SimV Cx (fun g F => rx g F ρ) g F As ρ (m ρ g) (v σ)
def SimT (Cx : Ctx) (m : T) (v : VT) : Prop := ∀ (ρ : Env) (σ : VEnv) (g : G) (F : Fz) (As : Own), env Cx g F σ ρ As → Iv g F As [] → SimV Cx (fun _ _ b c B => b = c ∧ B = []) g F As ρ (m ρ g) (v σ)
def SimA (Cx : Ctx) (m : A) (v : VA) : Prop := ∀ (ρ : Env) (σ : VEnv) (g : G) (F : Fz) (As : Own), env Cx g F σ ρ As → Iv g F As [] → SimV Cx (fun g F => rxs g F ρ) g F As ρ (m ρ g) (v σ)
structure E (Cx : Ctx) where
  m : M
  v : VM
  ok : SimE Cx m v
structure Te (Cx : Ctx) where
  m : T
  v : VT
  ok : SimT Cx m v
structure Ar (Cx : Ctx) where
  m : A
  v : VA
  ok : SimA Cx m v
section
variable {Cx : Ctx} {g g1 g2 g' : G} {F F1 F2 F' : Fz} {As As1 As2 As' : Own} {B C : List Nat} {σ σ1 σ2 σ' : VEnv} {ρ ρ' : Env} {u : U} {us : List U} {d : D} {ds : List D} {i : Nat}  {x : X} {xs : List X}
theorem rx_go (hF : ∀ r, F r → F' r) (k : Kp g g' F) (kB : Kp g g' (· ∈ B)) : ∀ {x : X}, rx g F ρ x d B → rx g' F' ρ x d B
  | .u u, h => rl_go hF k u d B kB h
  | .ln i, h => h
theorem rxs_go (hF : ∀ r, F r → F' r) (k : Kp g g' F) : ∀ {xs : List X} {ds : List D} {B : List Nat}, Kp g g' (· ∈ B) → rxs g F ρ xs ds B → rxs g' F' ρ xs ds B
  | [], _, _, _, h => h
  | x :: xs, _, _, kB, ⟨d, r, C, E, e, h1, h2, eB⟩ => ⟨d, r, C, E, e, rx_go hF k (kB.mono fun a ha => by rw [eB]; simp [ha]) h1, rxs_go hF k (kB.mono fun a ha => by rw [eB]; simp [ha]) h2, eB⟩
theorem xr_go {x : VX} {e : Exc} (hF : ∀ r, F r → F' r) (k : Kp g g' F) (s : ∀ r, F r → r < g.length → g'[r]? = g[r]?) (h : xr g F x e) : xr g' F' x e := by
  obtain ⟨h1, h2⟩ := h
  refine ⟨h1, ?_⟩
  split at h2
  · trivial
  · rename_i fs r _ _
    obtain ⟨hr, ds, h3, h4, h5⟩ := h2
    exact ⟨hF r hr, ds, by rw [s r hr (List.getElem?_eq_some_iff.mp h3).1]; exact h3, h4, frs_go hF k _ _ h5⟩
  · exact h2.elim
theorem Oke.refl (h : Py.env Cx g F σ ρ As) (x : Iv g F As []) : Oke Cx g F As ρ g F σ As [] := ⟨h, x, Sp.refl _ _ _⟩
theorem Oke.seq (i0 : Iv g F As []) (x : Oke Cx g F As ρ g1 F1 σ1 As1 C) (y : Oke Cx g1 F1 As1 ρ' g2 F2 σ2 As2 B) : Oke Cx g F As ρ' g2 F2 σ2 As2 (C ++ B) ∧ (∀ r, F1 r → F2 r) ∧ Kp g1 g2 F1 ∧ Kp g1 g2 (· ∈ C) := by
  obtain ⟨k1, k2, i2, s2⟩ := frame x.iv y.sp y.iv
  exact ⟨⟨y.env, i2, x.sp.trans s2⟩, y.sp.mono, k1, k2⟩
/-- what is in hand is frozen -/
theorem Oke.frz (x : Oke Cx g F As ρ g' F' σ' As' B) : Oke Cx g F As ρ g' (fun r => F' r ∨ r ∈ B) σ' As' [] := by
  obtain ⟨a, b, c⟩ := frz_hand x.iv x.env
  exact ⟨b, a, x.sp.trans c⟩
theorem Oke.drop (x : Oke Cx g F As ρ g' F' σ' As' B) : Oke Cx g F As ρ g' F' σ' As' [] := ⟨x.env, x.iv.none, x.sp.less fun _ => ow_nil⟩
theorem Oke.grow {t : List O} (i0 : Iv g F As []) (x : Oke Cx g F As ρ g' F' σ' As' []) (nd : B.Nodup) (hB : ∀ b ∈ B, g'.length ≤ b ∧ b < (g' ++ t).length) : Oke Cx g F As ρ (g' ++ t) F' σ' As' B := by
  obtain ⟨a, b, c⟩ := Py.grow x.iv x.env nd hB
  exact ⟨b, a, x.sp.trans c⟩
theorem xr_step {x : VX} {e : Exc} (i1 : Iv g1 F1 As1 []) (y : Oke Cx g1 F1 As1 ρ g2 F2 σ2 As2 B) (h : xr g1 F1 x e) : xr g2 F2 x e := by
  have k : ∀ r, F1 r → r < g1.length → g2[r]? = g1[r]? := fun r hr hl => y.sp.keep r hl fun hw => i1.nf r hw hr
  exact xr_go y.sp.mono (Kp.of_eq k) k h
/-! ### names, constants -/
def rdV (i : Nat) : VM := fun σ => match σ[i]? with
  | some (some (.fz p)) => .ok (.u (.fz p)) σ
  | some (some u) => .ok (.u (.fz u.toP)) (σ.set i (some (.fz u.toP)))
  | _ => .bad
def mvV (i : Nat) : VM := fun σ => match σ[i]? with | some (some u) => .ok (.u u) (σ.set i none) | _ => .bad
def lnV (i : Nat) : VM := fun σ => match σ[i]? with | some (some _) => .ok (.ln i) σ | _ => .bad
theorem var_ok (h : ρ[i]? = some (some d)) : mVar i ρ g = .ok d g := by unfold mVar; rw [h]
theorem frz_rd (h : env Cx g F σ ρ As) (iv : Iv g F As []) (hu : σ[i]? = some (some u)) : ∃ d F' As', mVar i ρ g = .ok d g ∧ rl g F' (.fz u.toP) d [] ∧ Oke Cx g F As ρ g F' (σ.set i (some (.fz u.toP))) As' [] := by
  obtain ⟨a, b, c, d, hd, hf⟩ := frz_slot iv h hu
  exact ⟨d, _, _, var_ok hd, ⟨hf, rfl⟩, b, a, c⟩
def E.var (i : Nat) : E Cx := ⟨mVar i, rdV i, fun ρ σ g F As h iv => by
  unfold SimV rdV
  split
  · rename_i x σ' e
    split at e
    · rename_i p hp
      cases e
      obtain ⟨d, hd, hr⟩ := h.2 i _ hp
      exact ⟨d, g, F, As, [], var_ok hd, ⟨hr.1, rfl⟩, Oke.refl h iv⟩
    · rename_i u _ hu
      cases e
      obtain ⟨d, F', As', h1, h2, h3⟩ := frz_rd h iv hu
      exact ⟨d, g, F', As', [], h1, h2, h3⟩
    · cases e
  · rename_i e; split at e <;> cases e
  · trivial⟩
def E.mov (i : Nat) : E Cx := ⟨mVar i, mvV i, fun ρ σ g F As h iv => by
  unfold SimV mvV
  split
  · rename_i x σ' e
    split at e
    · rename_i u hu
      cases e
      obtain ⟨d, hd, hr⟩ := h.2 i _ hu
      refine ⟨d, g, F, upO As i [], As i, var_ok hd, hr, env_kill h, iv.take, ?_⟩
      exact (Sp.refl g F _).less fun _ => ow_take
    · cases e
  · rename_i e; split at e <;> cases e
  · trivial⟩
def E.bor (i : Nat) : E Cx := ⟨mVar i, lnV i, fun ρ σ g F As h iv => by
  unfold SimV lnV
  split
  · rename_i x σ' e
    split at e
    · rename_i u hu
      cases e
      obtain ⟨d, hd, hr⟩ := h.2 i _ hu
      exact ⟨d, g, F, As, [], var_ok hd, ⟨hd, rfl⟩, Oke.refl h iv⟩
    · cases e
  · rename_i e; split at e <;> cases e
  · trivial⟩
def cV (p : P) : VM := fun σ => .ok (.u (.fz p)) σ
theorem c_ok {p : P} {d : D} (h : ∀ g F, fr g F p d) : SimE Cx (mC d) (cV p) := fun ρ σ g F As he iv => show ∃ _ _ _ _ _, _ from ⟨d, g, F, As, [], rfl, ⟨h g F, rfl⟩, Oke.refl he iv⟩
def E.non : E Cx := ⟨mC .non, cV .non, c_ok fun _ _ => rfl⟩
def E.bl (b : Bool) : E Cx := ⟨mC (.bl b), cV (.bl b), c_ok fun _ _ => rfl⟩
def E.int (i : Int) : E Cx := ⟨mC (.int i), cV (.int i), c_ok fun _ _ => rfl⟩
def E.str (s : List Char) : E Cx := ⟨mC (.str s), cV (.str s), c_ok fun _ _ => rfl⟩
/-! ### operations -/
/-- what is known of an operation: read off trees; the outcome holds nothing but what the items hold, and new lists -/
def Made (g : G) (F : Fz) (u : U) (r : Option (D × G)) : Prop := ∃ d t B, r = some (d, g ++ t) ∧ rl (g ++ t) F u d B ∧ B.Nodup ∧ ∀ b ∈ B, g.length ≤ b ∧ b < (g ++ t).length
structure Op2 where
  m : N2
  v : P → P → Option U
  ok : ∀ (g : G) (F : Fz) (p q : P) (x y : D) (u : U), (∀ a, F a → a < g.length) → fr1 g F p x → fr1 g F q y → v p q = some u → Made g F u (m x y g)
structure Op1 where
  m : N1
  v : P → Option U
  ok : ∀ (g : G) (F : Fz) (p : P) (x : D) (u : U), (∀ a, F a → a < g.length) → fr1 g F p x → v p = some u → Made g F u (m x g)
def res (σ : VEnv) : X → Option P
  | .u u => some u.toP
  | .ln i => match σ[i]? with | some (some u) => some u.toP | _ => none
/-- no owned list within a loan -/
def shal (σ : VEnv) : X → Bool
  | .u _ => true
  | .ln i => match σ[i]? with | some (some (.fz _)) => true | some (some (.own _)) => true | _ => false
def ap2 (f : P → P → Option U) (x y : X) : VEnv → VR X := fun σ => match res σ x, res σ y with
  | some p, some q => match f p q with | some u => if (shal σ x && shal σ y) || u.nr then .ok (.u u) σ else .bad | none => .bad
  | _, _ => .bad
def ap1 (f : P → Option U) (x : X) : VEnv → VR X := fun σ => match res σ x with
  | some p => match f p with | some u => if shal σ x || u.nr then .ok (.u u) σ else .bad | none => .bad
  | _ => .bad
/-- an operand, read -/
theorem res_sh (h : env Cx g F σ ρ As) (hx : rx g F ρ x d B) {p : P} (hp : res σ x = some p) (hs : shal σ x = true) : fr1 g (fun a => F a ∨ a ∈ B) p d := by
  cases x with
  | u u => cases hp; exact fr_1 (rl_fr u d B hx)
  | ln i =>
    obtain ⟨hd, hB⟩ := hx
    unfold res at hp
    unfold shal at hs
    dsimp only at hp hs
    split at hp
    · rename_i u hu
      cases hp
      obtain ⟨d', hd', hr⟩ := h.2 i u hu
      rw [hd] at hd'; cases hd'
      rw [hu] at hs
      cases u with
      | fz p => exact fr_1 (fr_go (fun _ => .inl) Kp.rfl' _ _ (by simpa using hr.1))
      | own ps =>
        obtain ⟨r, xs, e, hx, h, _⟩ := hr
        rw [toP_own]
        exact ⟨r, xs, e, hx, frs_go (fun _ => .inl) Kp.rfl' _ _ h⟩
      | _ => cases hs
    · cases hp
theorem res_all (h : env Cx g F σ ρ As) (hx : rx g F ρ x d B) {p : P} (hp : res σ x = some p) : fr1 g (fun a => F a ∨ a ∈ B ∨ ∃ i, a ∈ As i) p d := by
  cases x with
  | u u => cases hp; exact fr_1 (fr_go (fun _ h => h.imp id .inl) Kp.rfl' _ _ (rl_fr u d B hx))
  | ln i =>
    obtain ⟨hd, hB⟩ := hx
    unfold res at hp
    dsimp only at hp
    split at hp
    · rename_i u hu
      cases hp
      obtain ⟨d', hd', hr⟩ := h.2 i u hu
      rw [hd] at hd'; cases hd'
      exact fr_1 (fr_go (fun _ h => h.imp id fun h => .inr ⟨i, h⟩) Kp.rfl' _ _ (rl_fr u d _ hr))
    · cases hp
theorem ap2_ok (f : Op2) {y : X} {d1 d2 : D} {B1 B2 : List Nat} (i0 : Iv g F As []) (k : Oke Cx g F As ρ g' F' σ' As' (B1 ++ B2)) (hx : rx g' F' ρ x d1 B1) (hy : rx g' F' ρ y d2 B2) : SimV Cx (fun g F => rx g F ρ) g F As ρ (ofO (f.m d1 d2 g')) (ap2 f.v x y σ') := by
  unfold SimV ap2
  split
  · rename_i z σ2 e
    split at e
    · rename_i p q hp hq
      split at e
      · rename_i u hu
        split at e
        · rename_i hc
          cases e
          have kz := k.frz
          have done : ∀ F3 : Fz, (∀ a, F3 a → a < g'.length) → fr1 g' F3 p d1 → fr1 g' F3 q d2 → ((∀ a, F3 a → F' a ∨ a ∈ B1 ++ B2) ∨ u.nr = true) → ∃ d g2 F2 As2 B, ofO (f.m d1 d2 g') = .ok d g2 ∧ rx g2 F2 ρ (.u u) d B ∧ Oke Cx g F As ρ g2 F2 σ' As2 B := by
            intro F3 hF h1 h2 hn
            obtain ⟨d, t, B, e1, e2, nd, hB⟩ := f.ok g' F3 p q d1 d2 u hF h1 h2 hu
            refine ⟨d, g' ++ t, _, As', B, by rw [e1]; rfl, ?_, kz.grow i0 nd hB⟩
            rcases hn with hn | hn
            · exact rl_go hn Kp.rfl' u d B Kp.rfl' e2
            · exact rl_nr u d B hn Kp.rfl' e2
          simp only [Bool.or_eq_true, Bool.and_eq_true] at hc
          rcases hc with hc | hc
          · exact done _ (fun a ha => ha.elim (k.iv.fb a) fun h => k.iv.lt a (.inl h)) (fr1_up (fun _ h => h.imp id fun h => by simp [h]) (res_sh k.env hx hp hc.1)) (fr1_up (fun _ h => h.imp id fun h => by simp [h]) (res_sh k.env hy hq hc.2)) (.inl fun _ => id)
          · refine done (fun a => F' a ∨ a ∈ B1 ++ B2 ∨ ∃ i, a ∈ As' i) ?_ (fr1_up (fun _ h => h.imp id fun h => h.imp (fun h => by simp [h]) id) (res_all k.env hx hp)) (fr1_up (fun _ h => h.imp id fun h => h.imp (fun h => by simp [h]) id) (res_all k.env hy hq)) (.inr hc)
            intro a ha
            rcases ha with ha | ha | ha
            · exact k.iv.fb a ha
            · exact k.iv.lt a (.inl ha)
            · exact k.iv.lt a (.inr ha)
        · cases e
      · cases e
    · cases e
  · rename_i e; split at e <;> (try split at e) <;> (try split at e) <;> cases e
  · trivial
theorem ap1_ok (f : Op1) {d1 : D} {B1 : List Nat} (i0 : Iv g F As []) (k : Oke Cx g F As ρ g' F' σ' As' B1) (hx : rx g' F' ρ x d1 B1) : SimV Cx (fun g F => rx g F ρ) g F As ρ (ofO (f.m d1 g')) (ap1 f.v x σ') := by
  unfold SimV ap1
  split
  · rename_i z σ2 e
    split at e
    · rename_i p hp
      split at e
      · rename_i u hu
        split at e
        · rename_i hc
          cases e
          have kz := k.frz
          have done : ∀ F3 : Fz, (∀ a, F3 a → a < g'.length) → fr1 g' F3 p d1 → ((∀ a, F3 a → F' a ∨ a ∈ B1) ∨ u.nr = true) → ∃ d g2 F2 As2 B, ofO (f.m d1 g') = .ok d g2 ∧ rx g2 F2 ρ (.u u) d B ∧ Oke Cx g F As ρ g2 F2 σ' As2 B := by
            intro F3 hF h1 hn
            obtain ⟨d, t, B, e1, e2, nd, hB⟩ := f.ok g' F3 p d1 u hF h1 hu
            refine ⟨d, g' ++ t, _, As', B, by rw [e1]; rfl, ?_, kz.grow i0 nd hB⟩
            rcases hn with hn | hn
            · exact rl_go hn Kp.rfl' u d B Kp.rfl' e2
            · exact rl_nr u d B hn Kp.rfl' e2
          simp only [Bool.or_eq_true] at hc
          rcases hc with hc | hc
          · exact done _ (fun a ha => ha.elim (k.iv.fb a) fun h => k.iv.lt a (.inl h)) (res_sh k.env hx hp hc) (.inl fun _ => id)
          · refine done (fun a => F' a ∨ a ∈ B1 ∨ ∃ i, a ∈ As' i) ?_ (res_all k.env hx hp) (.inr hc)
            intro a ha
            rcases ha with ha | ha | ha
            · exact k.iv.fb a ha
            · exact k.iv.lt a (.inl ha)
            · exact k.iv.lt a (.inr ha)
        · cases e
      · cases e
    · cases e
  · rename_i e; split at e <;> (try split at e) <;> (try split at e) <;> cases e
  · trivial
end
section
variable {Cx : Ctx} {β γ β' γ' : Type} {Rel : G → Fz → β → γ → List Nat → Prop} {Rel' : G → Fz → β' → γ' → List Nat → Prop} {g g1 : G} {F F1 : Fz} {As As1 : Own} {ρ : Env} {σ1 : VEnv} {C : List Nat}  {rg : R γ} {rv : VR β}
/-- a part, then what follows -/
theorem SimV.bind {kg : γ → G → R γ'} {kv : β → VEnv → VR β'} (h : SimV Cx Rel g F As ρ rg rv) (q : ∀ b c g1 F1 As1 σ1 B1, Rel g1 F1 b c B1 → Oke Cx g F As ρ g1 F1 σ1 As1 B1 → SimV Cx Rel' g F As ρ (kg c g1) (kv b σ1)) : SimV Cx Rel' g F As ρ (rg.bind kg) (rv.bind kv) := by
  cases rv with
  | ok b σ1 =>
    obtain ⟨c, g1, F1, As1, B1, e, h1, h2⟩ := h
    rw [e]
    exact q b c g1 F1 As1 σ1 B1 h1 h2
  | exc x σ1 =>
    obtain ⟨e, g1, F1, As1, h0, h1, h2⟩ := h
    rw [h0]
    exact ⟨e, g1, F1, As1, rfl, h1, h2⟩
  | bad => trivial
/-- a part that begins behind a step, with C in hand -/
theorem SimV.after (i0 : Iv g F As []) (k : Oke Cx g F As ρ g1 F1 σ1 As1 C) (h : SimV Cx Rel g1 F1 As1 ρ rg rv) : SimV Cx (fun g' F' b c B => ∃ B', B = C ++ B' ∧ Rel g' F' b c B' ∧ (∀ r, F1 r → F' r) ∧ Kp g1 g' F1 ∧ Kp g1 g' (· ∈ C)) g F As ρ rg rv := by
  cases rv with
  | ok b σ2 =>
    obtain ⟨c, g2, F2, As2, B2, e, h1, h2⟩ := h
    obtain ⟨a1, a2, a3, a4⟩ := k.seq i0 h2
    exact ⟨c, g2, F2, As2, _, e, ⟨B2, rfl, h1, a2, a3, a4⟩, a1⟩
  | exc x σ2 =>
    obtain ⟨e, g2, F2, As2, h0, h1, h2⟩ := h
    obtain ⟨a1, a2, a3, a4⟩ := k.seq i0 h2
    exact ⟨e, g2, F2, As2, h0, h1, a1.drop⟩
  | bad => trivial
theorem SimV.ok {b : β} {c : γ} {B : List Nat} (h : Rel g1 F1 b c B) (k : Oke Cx g F As ρ g1 F1 σ1 As1 B) : SimV Cx Rel g F As ρ (.ok c g1) (.ok b σ1) := ⟨c, g1, F1, As1, B, rfl, h, k⟩
theorem SimV.bad : SimV Cx Rel g F As ρ rg .bad := trivial
end
variable {Cx : Ctx}
def op2V (f : P → P → Option U) (a b : VM) : VM := fun σ => (a σ).bind fun x σ1 => (b σ1).bind fun y σ2 => ap2 f x y σ2
def op1V (f : P → Option U) (a : VM) : VM := fun σ => (a σ).bind fun x σ1 => ap1 f x σ1
def E.op2 (f : Op2) (a b : E Cx) : E Cx := ⟨mOp f.m a.m b.m, op2V f.v a.v b.v, fun ρ σ g F As h iv =>
  (a.ok ρ σ g F As h iv).bind fun x d g1 F1 As1 σ1 B1 h1 k1 => ((b.ok ρ σ1 g1 F1 As1 k1.env k1.iv.none).after iv k1).bind fun y e g2 F2 As2 σ2 B h2 k2 => by
    obtain ⟨B2, rfl, h3, a2, a3, a4⟩ := h2
    exact ap2_ok f iv k2 (rx_go a2 a3 a4 h1) h3⟩
def E.op1 (f : Op1) (a : E Cx) : E Cx := ⟨mUn f.m a.m, op1V f.v a.v, fun ρ σ g F As h iv =>
  (a.ok ρ σ g F As h iv).bind fun x d g1 F1 As1 σ1 B1 h1 k1 => ap1_ok f iv k1 h1⟩
end Py
end

section
set_option autoImplicit false
set_option linter.all false
/-! Expressions, further: truth, tests, tuples, lists, slices. -/
namespace Py
variable {Cx : Ctx}
def xB : X → Option Bool
  | .u (.fz (.bl b)) => some b
  | _ => none
@[simp] theorem xB_bl (b : Bool) : xB (.u (.fz (.bl b))) = some b := rfl
def ofV {α : Type} (o : Option α) (σ : VEnv) : VR α := match o with | some a => .ok a σ | none => .bad
@[simp] theorem ofV_some {α : Type} (a : α) (σ : VEnv) : ofV (some a) σ = .ok a σ := rfl
@[simp] theorem ofV_none {α : Type} (σ : VEnv) : ofV (none : Option α) σ = .bad := rfl
def xbl (b : Bool) : X := .u (.fz (.bl b))
def notV (a : VM) : VM := fun σ => (a σ).bind fun x σ1 => (ofV (xB x) σ1).bind fun c σ2 => .ok (.u (.fz (.bl (!c)))) σ2
def andV (a b : VM) : VM := fun σ => (a σ).bind fun x σ1 => (ofV (xB x) σ1).bind fun c σ2 => if c then b σ2 else .ok (.u (.fz (.bl false))) σ2
def orV (a b : VM) : VM := fun σ => (a σ).bind fun x σ1 => (ofV (xB x) σ1).bind fun c σ2 => if c then .ok (.u (.fz (.bl true))) σ2 else b σ2
def iteV (t : VT) (a b : VM) : VM := fun σ => (t σ).bind fun c σ1 => if c then a σ1 else b σ1
def chainV (f f' : P → P → Option U) (a b c : VM) : VM := fun σ => (a σ).bind fun x σ1 => (b σ1).bind fun y σ2 => match ap2 f x y σ2 with
  | .ok (.u (.fz (.bl k))) _ => if k then (c σ2).bind fun z σ3 => ap2 f' y z σ3 else .ok (.u (.fz (.bl false))) σ2
  | _ => .bad
def tvV (a : VM) : VT := fun σ => (a σ).bind fun x σ1 => ofV (xB x) σ1
def truP : P → Option Bool
  | .non => some false
  | .bl b => some b
  | .int i => some (i != 0)
  | .str s => if s.length ≤ LINE then some (s.length != 0) else none
  | .tup ps => some (!ps.isEmpty)
  | .lst ps => some (!ps.isEmpty)
  | _ => none
def ttV (a : VM) : VT := fun σ => (a σ).bind fun x σ1 => ofV ((res σ1 x).bind truP) σ1
def taV (a b : VT) : VT := fun σ => (a σ).bind fun c σ1 => if c then b σ1 else .ok false σ1
def toV (a b : VT) : VT := fun σ => (a σ).bind fun c σ1 => if c then .ok true σ1 else b σ1
def tnV (a : VT) : VT := fun σ => (a σ).bind fun c σ1 => .ok (!c) σ1
section
variable {g g1 g2 g' : G} {F F1 F2 F' : Fz} {As As1 As2 As' : Own} {B C : List Nat} {σ σ1 σ2 σ' : VEnv} {ρ ρ' : Env} {u : U} {us : List U} {d : D} {ds : List D} {i : Nat}  {x : X} {xs : List X}
theorem xB_rx {b : Bool} (h : xB x = some b) (hx : rx g F ρ x d B) : d = .bl b ∧ B = [] := by
  unfold xB at h
  split at h
  · cases h; exact hx
  · cases h
theorem rx_bl (b : Bool) : rx g F ρ (.u (.fz (.bl b))) (.bl b) [] := ⟨rfl, rfl⟩
/-- a truth value in hand -/
theorem xB_bind {β' γ' : Type} {Rel' : G → Fz → β' → γ' → List Nat → Prop} {kg : Bool → G → R γ'} {kv : Bool → VEnv → VR β'} (hx : rx g1 F1 ρ x d B) (k : Oke Cx g F As ρ g1 F1 σ1 As1 B) (q : ∀ c, Oke Cx g F As ρ g1 F1 σ1 As1 [] → SimV Cx Rel' g F As ρ (kg c g1) (kv c σ1)) : SimV Cx Rel' g F As ρ ((ofP (asB d) g1).bind kg) ((ofV (xB x) σ1).bind kv) := by
  cases hb : xB x with
  | none => exact SimV.bad
  | some b =>
    obtain ⟨rfl, rfl⟩ := xB_rx hb hx
    exact q b k
/-- a part behind a step with nothing in hand -/
theorem SimV.then {β γ : Type} {Rel : G → Fz → β → γ → List Nat → Prop} {rg : R γ} {rv : VR β} (i0 : Iv g F As []) (k : Oke Cx g F As ρ g1 F1 σ1 As1 []) (h : SimV Cx Rel g1 F1 As1 ρ rg rv) : SimV Cx Rel g F As ρ rg rv := by
  cases rv with
  | ok b σ2 =>
    obtain ⟨c, g2, F2, As2, B2, e, h1, h2⟩ := h
    exact ⟨c, g2, F2, As2, _, e, h1, (k.seq i0 h2).1⟩
  | exc x σ2 =>
    obtain ⟨e, g2, F2, As2, h0, h1, h2⟩ := h
    exact ⟨e, g2, F2, As2, h0, h1, (k.seq i0 h2).1⟩
  | bad => trivial
def E.not (a : E Cx) : E Cx := ⟨mNot a.m, notV a.v, fun ρ σ g F As h iv =>
  (a.ok ρ σ g F As h iv).bind fun x d g1 F1 As1 σ1 B1 h1 k1 => xB_bind h1 k1 fun c k => SimV.ok (rx_bl _) k⟩
def E.and (a b : E Cx) : E Cx := ⟨mAnd a.m b.m, andV a.v b.v, fun ρ σ g F As h iv =>
  (a.ok ρ σ g F As h iv).bind fun x d g1 F1 As1 σ1 B1 h1 k1 => xB_bind h1 k1 fun c k => by
    cases c
    · exact SimV.ok (rx_bl _) k
    · exact (b.ok ρ σ1 g1 F1 As1 k.env k.iv).then iv k⟩
def E.or (a b : E Cx) : E Cx := ⟨mOr a.m b.m, orV a.v b.v, fun ρ σ g F As h iv =>
  (a.ok ρ σ g F As h iv).bind fun x d g1 F1 As1 σ1 B1 h1 k1 => xB_bind h1 k1 fun c k => by
    cases c
    · exact (b.ok ρ σ1 g1 F1 As1 k.env k.iv).then iv k
    · exact SimV.ok (rx_bl _) k⟩
def E.ite (t : Te Cx) (a b : E Cx) : E Cx := ⟨mIf t.m a.m b.m, iteV t.v a.v b.v, fun ρ σ g F As h iv =>
  (t.ok ρ σ g F As h iv).bind fun c c' g1 F1 As1 σ1 B1 h1 k1 => by
    obtain ⟨rfl, rfl⟩ := h1
    cases c
    · exact (b.ok ρ σ1 g1 F1 As1 k1.env k1.iv).then iv k1
    · exact (a.ok ρ σ1 g1 F1 As1 k1.env k1.iv).then iv k1⟩
/-! tests -/
def Te.val (a : E Cx) : Te Cx := ⟨tVal a.m, tvV a.v, fun ρ σ g F As h iv =>
  (a.ok ρ σ g F As h iv).bind fun x d g1 F1 As1 σ1 B1 h1 k1 => by
    cases hb : xB x with
    | none => exact SimV.bad
    | some b => obtain ⟨rfl, rfl⟩ := xB_rx hb h1; exact SimV.ok ⟨rfl, rfl⟩ k1⟩
theorem truth_fr1 {p : P} {b : Bool} (h : fr1 g F p d) (hb : truP p = some b) : truth d g = some b := by
  cases p with
  | non => rw [show d = .non from h]; exact hb
  | bl _ => rw [show d = .bl _ from h]; exact hb
  | int _ => rw [show d = .int _ from h]; exact hb
  | str s => rw [show d = .str _ from h]; exact hb
  | tup ps =>
    obtain ⟨ds, e, h⟩ := h
    rw [e]
    have := frs_len h
    simp only [truP, Option.some.injEq] at hb
    rw [← hb]
    cases ps <;> cases ds <;> simp [truth] at this ⊢
  | lst ps =>
    obtain ⟨r, xs, e, hx, h⟩ := h
    rw [e]
    have := frs_len h
    simp only [truP, Option.some.injEq] at hb
    rw [← hb]
    cases ps <;> cases xs <;> simp [truth, hx] at this ⊢
  | _ => cases hb
def Te.tru (a : E Cx) : Te Cx := ⟨tTru a.m, ttV a.v, fun ρ σ g F As h iv =>
  (a.ok ρ σ g F As h iv).bind fun x d g1 F1 As1 σ1 B1 h1 k1 => by
    cases hp : res σ1 x with
    | none => exact SimV.bad
    | some p =>
      cases hb : truP p with
      | none => simp only [Option.bind_some, hb, ofV_none]; exact SimV.bad
      | some b =>
        simp only [Option.bind_some, hb, ofV_some, truth_fr1 (res_all k1.env h1 hp) hb, ofP_some]
        exact SimV.ok ⟨rfl, rfl⟩ k1.drop⟩
def Te.not (a : Te Cx) : Te Cx := ⟨tNot a.m, tnV a.v, fun ρ σ g F As h iv =>
  (a.ok ρ σ g F As h iv).bind fun c c' g1 F1 As1 σ1 B1 h1 k1 => by
    obtain ⟨rfl, rfl⟩ := h1
    exact SimV.ok ⟨rfl, rfl⟩ k1⟩
def Te.and (a b : Te Cx) : Te Cx := ⟨tAnd a.m b.m, taV a.v b.v, fun ρ σ g F As h iv =>
  (a.ok ρ σ g F As h iv).bind fun c c' g1 F1 As1 σ1 B1 h1 k => by
    obtain ⟨rfl, rfl⟩ := h1
    cases c
    · exact SimV.ok ⟨rfl, rfl⟩ k
    · exact (b.ok ρ σ1 g1 F1 As1 k.env k.iv).then iv k⟩
def Te.or (a b : Te Cx) : Te Cx := ⟨tOr a.m b.m, toV a.v b.v, fun ρ σ g F As h iv =>
  (a.ok ρ σ g F As h iv).bind fun c c' g1 F1 As1 σ1 B1 h1 k => by
    obtain ⟨rfl, rfl⟩ := h1
    cases c
    · exact (b.ok ρ σ1 g1 F1 As1 k.env k.iv).then iv k
    · exact SimV.ok ⟨rfl, rfl⟩ k⟩
def Te.yes : Te Cx := ⟨tYes, fun σ => .ok true σ, fun ρ σ g F As h iv => SimV.ok ⟨rfl, rfl⟩ (Oke.refl h iv)⟩
/-! chains -/
structure OpB where
  m : B2
  v : P → P → Option U
  ok : ∀ (g : G) (F : Fz) (p q : P) (x y : D) (u : U), (∀ a, F a → a < g.length) → fr1 g F p x → fr1 g F q y → v p q = some u → ∃ d, m x y g = some d ∧ rl g F u d []
def OpB.op (f : OpB) : Op2 := ⟨p2 f.m, f.v, fun g F p q x y u hF h1 h2 h => by
  obtain ⟨d, e, hr⟩ := f.ok g F p q x y u hF h1 h2 h
  exact ⟨d, [], [], by unfold p2; rw [e, List.append_nil]; rfl, by rw [List.append_nil]; exact hr, List.nodup_nil, fun _ h => by cases h⟩⟩
theorem apB_ok (f : OpB) {y : X} {d1 d2 : D} {B1 B2 : List Nat} {k : Bool} (h : env Cx g' F' σ' ρ As') (iv : Iv g' F' As' (B1 ++ B2)) (hx : rx g' F' ρ x d1 B1) (hy : rx g' F' ρ y d2 B2) (e : ap2 f.v x y σ' = .ok (.u (.fz (.bl k))) σ2) : f.m d1 d2 g' = some (.bl k) := by
  unfold ap2 at e
  split at e
  · rename_i p q hp hq
    split at e
    · rename_i u hu
      split at e
      · cases e
        obtain ⟨d, e1, e2⟩ := f.ok g' (fun a => F' a ∨ a ∈ B1 ++ B2 ∨ ∃ i, a ∈ As' i) p q d1 d2 _ (fun a ha => by
          rcases ha with ha | ha | ha
          · exact iv.fb a ha
          · exact iv.lt a (.inl ha)
          · exact iv.lt a (.inr ha)) (fr1_up (fun _ h => h.imp id fun h => h.imp (fun h => by simp [h]) id) (res_all h hx hp)) (fr1_up (fun _ h => h.imp id fun h => h.imp (fun h => by simp [h]) id) (res_all h hy hq)) hu
        rw [e1, e2.1]
      · cases e
    · cases e
  · cases e
def E.chain (f f' : OpB) (a b c : E Cx) : E Cx := ⟨mChain f.m f'.m a.m b.m c.m, chainV f.v f'.v a.v b.v c.v, fun ρ σ g F As h iv =>
  (a.ok ρ σ g F As h iv).bind fun x d g1 F1 As1 σ1 B1 h1 k1 => ((b.ok ρ σ1 g1 F1 As1 k1.env k1.iv.none).after iv k1).bind fun y e g2 F2 As2 σ2 B h2 k2 => by
    obtain ⟨B2, rfl, h3, a2, a3, a4⟩ := h2
    have h1' := rx_go a2 a3 a4 h1
    split
    · rename_i k σ3 e3
      rw [apB_ok f k2.env k2.iv h1' h3 e3]
      simp only [ofP_some, R.bind_ok, x_asB]
      cases k with
      | false => exact SimV.ok (rx_bl _) k2.drop
      | true =>
        refine ((c.ok ρ σ2 g2 F2 As2 k2.env k2.iv.none).after iv k2).bind fun z d3 g3 F3 As3 σ4 B4 h4 k4 => ?_
        obtain ⟨B3, rfl, h5, b2, b3, b4⟩ := h4
        have hy := rx_go (B := B2) b2 b3 (b4.mono fun r hr => by simp [hr]) h3
        have k5 : Oke Cx g F As ρ g3 F3 σ4 As3 (B2 ++ B3) := by
          refine ⟨k4.env, k4.iv.sub (fun r hr => ?_) (k4.iv.ndB.sublist (by rw [List.append_assoc]; exact List.sublist_append_right _ _)), k4.sp.less fun r hr => hr.imp (fun hr => ?_) id⟩ <;> (simp at hr ⊢; exact .inr hr)
        have := ap2_ok f'.op iv k5 hy h5
        have e5 := ofO_p2 (g := g3) f'.m e d3
        rw [show f'.op.m = p2 f'.m from rfl, e5] at this
        exact this
    · exact SimV.bad⟩
/-! tuples, lists -/
def arNil : Ar Cx := ⟨mNil, fun σ => .ok [] σ, fun ρ σ g F As h iv => SimV.ok ⟨rfl, rfl⟩ (Oke.refl h iv)⟩
def consV (a : VM) (as : VA) : VA := fun σ => (a σ).bind fun x σ1 => (as σ1).bind fun xs σ2 => .ok (x :: xs) σ2
def arCons (a : E Cx) (as : Ar Cx) : Ar Cx := ⟨mCons a.m as.m, consV a.v as.v, fun ρ σ g F As h iv =>
  (a.ok ρ σ g F As h iv).bind fun x d g1 F1 As1 σ1 B1 h1 k1 => ((as.ok ρ σ1 g1 F1 As1 k1.env k1.iv.none).after iv k1).bind fun xs ds g2 F2 As2 σ2 B h2 k2 => by
    obtain ⟨B2, rfl, h3, a2, a3, a4⟩ := h2
    exact SimV.ok ⟨d, ds, B1, B2, rfl, rx_go a2 a3 a4 h1, h3, rfl⟩ k2⟩
def toUs : List X → Option (List U)
  | [] => some []
  | .u u :: r => (toUs r).map (u :: ·)
  | .ln _ :: _ => none
def allFz : List U → Option (List P)
  | [] => some []
  | .fz p :: r => (allFz r).map (p :: ·)
  | _ :: _ => none
def mkTup (us : List U) : U := match allFz us with | some ps => .fz (.tup ps) | none => .tup us
def mkLst (us : List U) : U := match allFz us with | some ps => .own ps | none => .nst us
theorem toUs_rls : ∀ {xs : List X} {ds : List D} {B : List Nat} {us : List U}, toUs xs = some us → rxs g F ρ xs ds B → rls g F us ds B
  | [], _, _, _, e, h => by cases e; exact h
  | .u u :: r, _, _, _, e, ⟨d, ds, C, E, e1, h1, h2, e2⟩ => by
    simp only [toUs, Option.map_eq_some_iff] at e
    obtain ⟨us, e3, rfl⟩ := e
    exact ⟨d, ds, C, E, e1, h1, toUs_rls e3 h2, e2⟩
  | .ln _ :: _, _, _, _, e, _ => by cases e
theorem allFz_frs : ∀ {us : List U} {ds : List D} {B : List Nat} {ps : List P}, allFz us = some ps → rls g F us ds B → frs g F ps ds ∧ B = []
  | [], _, _, _, e, h => by cases e; exact h
  | .fz p :: r, _, _, _, e, ⟨d, ds, C, E, e1, h1, h2, e2⟩ => by
    simp only [allFz, Option.map_eq_some_iff] at e
    obtain ⟨ps, e3, rfl⟩ := e
    obtain ⟨h3, rfl⟩ := allFz_frs e3 h2
    obtain ⟨h4, rfl⟩ := h1
    exact ⟨⟨d, ds, e1, h4, h3⟩, e2⟩
  | .own _ :: _, _, _, _, e, _ => by cases e
  | .tup _ :: _, _, _, _, e, _ => by cases e
  | .nst _ :: _, _, _, _, e, _ => by cases e
theorem mkTup_rl (h : rls g F us ds B) : rl g F (mkTup us) (.tup ds) B := by
  unfold mkTup
  split
  · rename_i ps e
    obtain ⟨a, b⟩ := allFz_frs e h
    exact ⟨⟨ds, rfl, a⟩, b⟩
  · exact ⟨ds, rfl, h⟩
theorem mkLst_rl {r : Nat} (h : rls g F us ds B) (hr : g[r]? = some (.lst ds)) : rl g F (mkLst us) (.ref r) (r :: B) := by
  unfold mkLst
  split
  · rename_i ps e
    obtain ⟨a, b⟩ := allFz_frs e h
    exact ⟨r, ds, rfl, hr, a, by rw [b]⟩
  · exact ⟨r, ds, B, rfl, hr, h, rfl⟩
def tupV (as : VA) : VM := fun σ => (as σ).bind fun xs σ1 => match toUs xs with | some us => if us.length ≤ LINE then .ok (.u (mkTup us)) σ1 else .bad | none => .bad
def lstV (as : VA) : VM := fun σ => (as σ).bind fun xs σ1 => match toUs xs with | some us => if us.length ≤ LINE then .ok (.u (mkLst us)) σ1 else .bad | none => .bad
def E.tup (as : Ar Cx) : E Cx := ⟨mTup as.m, tupV as.v, fun ρ σ g F As h iv =>
  (as.ok ρ σ g F As h iv).bind fun xs ds g1 F1 As1 σ1 B1 h1 k1 => by
    cases e : toUs xs with
    | none => exact SimV.bad
    | some us =>
      have h2 := toUs_rls e h1
      dsimp only
      by_cases hl : us.length ≤ LINE
      · rw [if_pos (show ds.length ≤ LINE by rw [rls_len h2]; exact hl), if_pos hl]
        exact SimV.ok (mkTup_rl h2) k1
      · rw [if_neg hl]; exact SimV.bad⟩
/-- a new list around what is in hand -/
theorem Oke.newl (i0 : Iv g F As []) (k : Oke Cx g F As ρ g' F' σ' As' B) (xs : List D) : Oke Cx g F As ρ (g' ++ [.lst xs]) F' σ' As' (g'.length :: B) := by
  have hB : g'.length ∉ B := fun h => by have := k.iv.lt _ (.inl h); omega
  obtain ⟨a, b, c⟩ := Py.grow (t := [.lst xs]) (B := [g'.length]) k.iv.none k.env (by simp) (by simp)
  refine ⟨b, ⟨a.fb, ?_, a.nd, a.dj, ?_, ?_, ?_⟩, ?_⟩
  · exact List.nodup_cons.mpr ⟨hB, k.iv.ndB⟩
  · intro i x hx h
    rcases List.mem_cons.mp h with e | h
    · exact a.djB i x hx (by simp [e])
    · exact k.iv.djB i x hx h
  · intro x hx hf
    rcases hx with hx | hx
    · rcases List.mem_cons.mp hx with e | hx
      · exact a.nf x (.inl (by simp [e])) hf
      · exact k.iv.nf x (.inl hx) hf
    · exact k.iv.nf x (.inr hx) hf
  · intro x hx
    rcases hx with hx | hx
    · rcases List.mem_cons.mp hx with e | hx
      · rw [e]; simp
      · have := k.iv.lt x (.inl hx); simp; omega
    · have := k.iv.lt x (.inr hx); simp; omega
  · refine ⟨by have := k.sp.len; simp; omega, fun i hi hw => ?_, k.sp.mono, k.sp.back, fun i hi => ?_⟩
    · have := k.sp.len
      rw [List.getElem?_append_left (by omega)]; exact k.sp.keep i hi hw
    · rcases hi with hi | hi
      · rcases List.mem_cons.mp hi with e | hi
        · rw [e]; exact .inr k.sp.len
        · exact k.sp.ow i (.inl hi)
      · exact k.sp.ow i (.inr hi)
def E.lst (as : Ar Cx) : E Cx := ⟨mLst as.m, lstV as.v, fun ρ σ g F As h iv =>
  (as.ok ρ σ g F As h iv).bind fun xs ds g1 F1 As1 σ1 B1 h1 k1 => by
    cases e : toUs xs with
    | none => exact SimV.bad
    | some us =>
      have h2 := toUs_rls e h1
      dsimp only
      by_cases hl : us.length ≤ LINE
      · rw [if_pos (show ds.length ≤ LINE by rw [rls_len h2]; exact hl), if_pos hl]
        exact SimV.ok (mkLst_rl (rls_go (fun _ => id) kp_grow us ds B1 kp_grow h2) (get_snoc _ _)) (k1.newl iv ds)
      · rw [if_neg hl]; exact SimV.bad⟩
end
end Py
end

section
set_option autoImplicit false
set_option linter.all false
/-! Slices; what is walked; targets; comprehensions. -/
namespace Py
variable {Cx : Ctx}
/-! ### slices -/
structure Ix (Cx : Ctx) where
  m : Option M
  v : VEnv → VR (Option Int)
  ok : ∀ (ρ : Env) (σ : VEnv) (g : G) (F : Fz) (As : Own), env Cx g F σ ρ As → Iv g F As [] → SimV Cx (fun _ _ b c B => b = c ∧ B = []) g F As ρ (mIx m ρ g) (v σ)
def xI : X → Option Int
  | .u (.fz (.int i)) => some i
  | _ => none
@[simp] theorem xI_int (i : Int) : xI (.u (.fz (.int i))) = some i := rfl
theorem xI_rx {g : G} {F : Fz} {ρ : Env} {x : X} {d : D} {B : List Nat} {b : Int} (h : xI x = some b) (hx : rx g F ρ x d B) : d = .int b ∧ B = [] := by
  unfold xI at h
  split at h
  · cases h; exact hx
  · cases h
def Ix.no : Ix Cx := ⟨none, fun σ => .ok none σ, fun ρ σ g F As h iv => SimV.ok ⟨rfl, rfl⟩ (Oke.refl h iv)⟩
def ixV (a : VM) : VEnv → VR (Option Int) := fun σ => (a σ).bind fun x σ1 => (ofV (xI x) σ1).bind fun i σ2 => .ok (some i) σ2
def Ix.of (a : E Cx) : Ix Cx := ⟨some a.m, ixV a.v, fun ρ σ g F As h iv => (a.ok ρ σ g F As h iv).bind fun x d g1 F1 As1 σ1 B1 h1 k1 => by
  cases hb : xI x with
  | none => exact SimV.bad
  | some b => obtain ⟨rfl, rfl⟩ := xI_rx hb h1; exact SimV.ok ⟨rfl, rfl⟩ k1⟩
def slP (lo hi : Option Int) : P → Option U
  | .str s => if s.length ≤ LINE then some (.fz (.str (cut s lo hi))) else none
  | .tup ps => some (.fz (.tup (cut ps lo hi)))
  | .lst ps => some (.own (cut ps lo hi))
  | .scr ps => some (.own (cut ps lo hi))
  | _ => none
theorem frs_cut {g : G} {F : Fz} {ps : List P} {ds : List D} (lo hi : Option Int) (h : frs g F ps ds) : frs g F (cut ps lo hi) (cut ds lo hi) := by
  unfold cut
  rw [frs_len h]
  exact frs_take _ (frs_drop _ h)
theorem made_fz {g : G} {F : Fz} {p : P} {d : D} (h : fr g F p d) : Made g F (.fz p) (some (d, g)) := ⟨d, [], [], by rw [List.append_nil], by rw [List.append_nil]; exact ⟨h, rfl⟩, List.nodup_nil, fun _ h => by cases h⟩
theorem made_lst {g : G} {F : Fz} {ps : List P} {ds : List D} (h : frs g F ps ds) : Made g F (.own ps) (some (newL ds g)) :=
  ⟨_, [.lst ds], [g.length], rfl, ⟨_, ds, rfl, get_snoc _ _, frs_go (fun _ => id) kp_grow _ _ h, rfl⟩, by simp, by simp⟩
def slOp (lo hi : Option Int) : Op1 := ⟨fun x g => oSl x lo hi g, slP lo hi, fun g F p x u hF h hu => by
  cases p with
  | str s =>
    rw [show x = .str s from h]
    simp only [slP] at hu
    split at hu
    · rename_i hl
      cases hu
      simp only [oSl, if_pos hl]
      exact made_fz rfl
    · cases hu
  | tup ps =>
    obtain ⟨ds, rfl, h⟩ := h
    cases hu
    exact made_fz ⟨_, rfl, frs_cut lo hi h⟩
  | lst ps =>
    obtain ⟨r, xs, rfl, hx, h⟩ := h
    cases hu
    rw [sl_ref lo hi (lstOf_lst hx)]
    exact made_lst (frs_cut lo hi h)
  | scr ps =>
    obtain ⟨r, xs, rfl, _, hx, h⟩ := h
    cases hu
    rw [sl_ref lo hi (lstOf_frz hx)]
    exact made_lst (frs_cut lo hi h)
  | _ => cases hu⟩
def slV (a : VM) (lo hi : VEnv → VR (Option Int)) : VM := fun σ => (a σ).bind fun x σ1 => (lo σ1).bind fun l σ2 => (hi σ2).bind fun h σ3 => ap1 (slP l h) x σ3
def E.sl (a : E Cx) (lo hi : Ix Cx) : E Cx := ⟨mSl a.m lo.m hi.m, slV a.v lo.v hi.v, fun ρ σ g F As h iv =>
  (a.ok ρ σ g F As h iv).bind fun x d g1 F1 As1 σ1 B1 h1 k1 => ((lo.ok ρ σ1 g1 F1 As1 k1.env k1.iv.none).after iv k1).bind fun l l' g2 F2 As2 σ2 B h2 k2 => by
    obtain ⟨B2, rfl, ⟨rfl, rfl⟩, a2, a3, a4⟩ := h2
    rw [List.append_nil] at k2
    refine ((hi.ok ρ σ2 g2 F2 As2 k2.env k2.iv.none).after iv k2).bind fun r r' g3 F3 As3 σ3 B h3 k3 => ?_
    obtain ⟨B3, rfl, ⟨rfl, rfl⟩, b2, b3, b4⟩ := h3
    rw [List.append_nil] at k3
    exact ap1_ok (slOp l r) iv k3 (rx_go b2 b3 b4 (rx_go a2 a3 a4 h1))⟩
/-! ### what is walked -/
def itR' (g : G) (F : Fz) (ps : List P) (it : Iter) : Prop := ∃ ds, frs g F ps ds ∧ it.n = ds.length ∧ ∀ g', Kp g g' F → ∀ k, it.get k g' = some ds[k]?
structure It (Cx : Ctx) where
  m : I
  v : VEnv → VR (List P)
  ok : ∀ (ρ : Env) (σ : VEnv) (g : G) (F : Fz) (As : Own), env Cx g F σ ρ As → Iv g F As [] → SimV Cx (fun g F ps it B => itR' g F ps it ∧ B = []) g F As ρ (m ρ g) (v σ)
def itemsP : P → Option (List P)
  | .tup ps => some ps
  | .lst ps => some ps
  | .scr ps => some ps
  | .str s => some (s.map fun c => .str [c])
  | _ => none
def xU : X → Option U
  | .u u => some u
  | .ln _ => none
@[simp] theorem xU_u (u : U) : xU (.u u) = some u := rfl
def anyV (a : VM) : VEnv → VR (List P) := fun σ => (a σ).bind fun x σ1 => ofV ((xU x).bind fun u => itemsP u.toP) σ1
theorem frs_chars {g : G} {F : Fz} : ∀ s : List Char, frs g F (s.map fun c => .str [c]) (s.map fun c => .str [c])
  | [] => rfl
  | c :: s => ⟨_, _, rfl, rfl, frs_chars s⟩
theorem iter_fr {g : G} {F : Fz} {p : P} {d : D} {ps : List P} (h : fr g F p d) (hp : itemsP p = some ps) : ∃ it, iterOf d g = some it ∧ itR' g F ps it := by
  cases p with
  | tup qs => cases hp; obtain ⟨ds, rfl, h⟩ := h; exact ⟨itL ds, rfl, ds, h, rfl, fun _ _ _ => rfl⟩
  | lst qs =>
    cases hp
    obtain ⟨r, xs, rfl, hr, hx, h⟩ := h
    exact ⟨itR r xs.length, iter_ref (lstOf_lst hx), xs, h, rfl, fun g' k i => by show (lstOf (.ref r) g').map (fun xs => xs[i]?) = _; rw [k.at hr (lstOf_lst hx)]; rfl⟩
  | scr qs =>
    cases hp
    obtain ⟨r, xs, rfl, hr, hx, h⟩ := h
    exact ⟨itR r xs.length, iter_ref (lstOf_frz hx), xs, h, rfl, fun g' k i => by show (lstOf (.ref r) g').map (fun xs => xs[i]?) = _; rw [k.at hr (lstOf_frz hx)]; rfl⟩
  | str s => cases hp; rw [show d = .str s from h]; exact ⟨_, rfl, _, frs_chars s, rfl, fun _ _ _ => rfl⟩
  | _ => cases hp
def It.any (a : E Cx) : It Cx := ⟨iAny a.m, anyV a.v, fun ρ σ g F As h iv => (a.ok ρ σ g F As h iv).bind fun x d g1 F1 As1 σ1 B1 h1 k1 => by
  cases x with
  | ln _ => exact SimV.bad
  | u u =>
    cases hp : itemsP u.toP with
    | none => simp only [xU_u, Option.bind_some, hp, ofV_none]; exact SimV.bad
    | some ps =>
      obtain ⟨it, e1, e2⟩ := iter_fr (rl_fr u d B1 h1) hp
      simp only [xU_u, Option.bind_some, hp, ofV_some, e1, ofP_some]
      exact SimV.ok ⟨e2, rfl⟩ k1.frz⟩
def rngP (lo : Int) (n : Nat) : List P := (List.range n).map fun (k : Nat) => .int (lo + k)
theorem frs_ints {g : G} {F : Fz} {α : Type} (f : α → Int) : ∀ xs : List α, frs g F (xs.map fun k => .int (f k)) (xs.map fun k => .int (f k))
  | [] => rfl
  | c :: s => ⟨_, _, rfl, rfl, frs_ints f s⟩
theorem itL_rng {g : G} {F : Fz} (lo : Int) (n : Nat) : itR' g F (rngP lo n) (itL (rng lo n)) := ⟨_, frs_ints _ _, rfl, fun _ _ _ => rfl⟩
noncomputable def rng1V (a : VM) : VEnv → VR (List P) := fun σ => (a σ).bind fun x σ1 => (ofV (xI x) σ1).bind fun j σ2 => if -SMALL ≤ j ∧ j < SMALL then .ok (rngP 0 j.toNat) σ2 else .bad
noncomputable def rng2V (a b : VM) : VEnv → VR (List P) := fun σ => (a σ).bind fun x σ1 => (b σ1).bind fun y σ2 => (ofV (xI x) σ2).bind fun i σ3 => (ofV (xI y) σ3).bind fun j σ4 => if (-SMALL ≤ i ∧ i < SMALL) ∧ -SMALL ≤ j ∧ j < SMALL then .ok (rngP i (j - i).toNat) σ4 else .bad
noncomputable def It.rng1 (a : E Cx) : It Cx := ⟨iRange1 a.m, rng1V a.v, fun ρ σ g F As h iv => (a.ok ρ σ g F As h iv).bind fun x d g1 F1 As1 σ1 B1 h1 k1 => by
  cases hb : xI x with
  | none => exact SimV.bad
  | some j =>
    obtain ⟨rfl, rfl⟩ := xI_rx hb h1
    simp only [ofV_some, VR.bind_ok]
    split
    · exact SimV.ok ⟨itL_rng _ _, rfl⟩ k1
    · exact SimV.bad⟩
noncomputable def It.rng2 (a b : E Cx) : It Cx := ⟨iRange2 a.m b.m, rng2V a.v b.v, fun ρ σ g F As h iv => (a.ok ρ σ g F As h iv).bind fun x d g1 F1 As1 σ1 B1 h1 k1 => ((b.ok ρ σ1 g1 F1 As1 k1.env k1.iv.none).after iv k1).bind fun y e g2 F2 As2 σ2 B h2 k2 => by
  obtain ⟨B2, rfl, h3, a2, a3, a4⟩ := h2
  cases hb : xI x with
  | none => exact SimV.bad
  | some i =>
    obtain ⟨rfl, rfl⟩ := xI_rx hb h1
    cases hc : xI y with
    | none => exact SimV.bad
    | some j =>
      obtain ⟨rfl, rfl⟩ := xI_rx hc h3
      simp only [ofV_some, VR.bind_ok]
      split
      · exact SimV.ok ⟨itL_rng _ _, rfl⟩ k2
      · exact SimV.bad⟩
def prsP : Nat → List P → List P
  | _, [] => []
  | i, p :: r => .tup [.int i, p] :: prsP (i + 1) r
theorem frs_prs {g : G} {F : Fz} : ∀ {ps : List P} {ds : List D} (i : Nat), frs g F ps ds → frs g F (prsP i ps) ((List.range' i ds.length).zipWith (fun (k : Nat) d => D.tup [.int k, d]) ds)
  | [], _, i, h => by rw [h]; rfl
  | p :: ps, _, i, ⟨d, r, e, h1, h2⟩ => by
    rw [e]
    exact ⟨.tup [.int i, d], _, rfl, ⟨[.int i, d], rfl, .int i, [d], rfl, rfl, d, [], rfl, h1, rfl⟩, frs_prs (i + 1) h2⟩
def noStr : P → Bool
  | .str _ => false
  | _ => true
def enV (a : VM) : VEnv → VR (List P) := fun σ => (a σ).bind fun x σ1 => ofV ((xU x).bind fun u => if noStr u.toP then (itemsP u.toP).map (prsP 0) else none) σ1
def It.enum (a : E Cx) : It Cx := ⟨iEnum a.m, enV a.v, fun ρ σ g F As h iv => (a.ok ρ σ g F As h iv).bind fun x d g1 F1 As1 σ1 B1 h1 k1 => by
  cases x with
  | ln _ => exact SimV.bad
  | u u =>
    have hf := rl_fr u d B1 h1
    cases hs : noStr u.toP with
    | false => simp only [xU_u, Option.bind_some, hs]; exact SimV.bad
    | true =>
      cases hp : itemsP u.toP with
      | none => simp only [xU_u, Option.bind_some, hs, hp]; exact SimV.bad
      | some ps =>
        obtain ⟨it, e1, ds, e2, e3, e4⟩ := iter_fr hf hp
        have hd : ∀ s, d ≠ .str s := by
          rintro s rfl
          generalize u.toP = p at hf hs hp
          cases p with
          | str _ => cases hs
          | tup _ => obtain ⟨_, e, _⟩ := hf; cases e
          | lst _ => obtain ⟨_, _, e, _⟩ := hf; cases e
          | scr _ => obtain ⟨_, _, e, _⟩ := hf; cases e
          | _ => cases hp
        simp only [xU_u, Option.bind_some, hs, hp, if_pos, Option.map_some, ofV_some]
        simp only [e1, Option.map_some, ofP_some]
        refine SimV.ok ⟨⟨_, frs_prs 0 e2, ?_, fun g' kp i => ?_⟩, rfl⟩ k1.frz
        · simp [itEn, e3]
        · simp only [itEn, e4 g' kp i, Option.map_some, Option.some.injEq]
          rw [List.getElem?_zipWith]
          cases hd2 : ds[i]? with
          | none => simp
          | some x =>
            have := (List.getElem?_eq_some_iff.mp hd2).1
            simp [this]⟩
/-! ### targets -/
structure Tgt where
  m : Tg
  v : U → VEnv → Option VEnv
  own : List Nat
  ok : ∀ (d : D) (u : U) (g : G) (F : Fz) (B C : List Nat) (As : Own) (ρ : Env) (σ σ' : VEnv), rl g F u d B → env [] g F σ ρ As → Iv g F As (B ++ C) → v u σ = some σ' →
    ∃ ρ' As', m d ρ = some ρ' ∧ env [] g F σ' ρ' As' ∧ Iv g F As' C ∧ (∀ a, ow As' C a → ow As (B ++ C) a) ∧ (∀ j, j ∉ own → ρ'[j]? = ρ[j]? ∧ As' j = As j) ∧ ρ'.length = ρ.length
structure Tgts where
  m : Tgs
  v : List U → VEnv → Option VEnv
  own : List Nat
  ok : ∀ (ds : List D) (us : List U) (g : G) (F : Fz) (B C : List Nat) (As : Own) (ρ : Env) (σ σ' : VEnv), rls g F us ds B → env [] g F σ ρ As → Iv g F As (B ++ C) → v us σ = some σ' →
    ∃ ρ' As', m ds ρ = some ρ' ∧ env [] g F σ' ρ' As' ∧ Iv g F As' C ∧ (∀ a, ow As' C a → ow As (B ++ C) a) ∧ (∀ j, j ∉ own → ρ'[j]? = ρ[j]? ∧ As' j = As j) ∧ ρ'.length = ρ.length
theorem Iv.set2 {g : G} {F : Fz} {As : Own} {B C : List Nat} {i : Nat} (x : Iv g F As (B ++ C)) : Iv g F (upO As i B) C := by
  have y := (x.sub (C := B) (fun a h => by simp [h]) (List.nodup_append.mp x.ndB).1).set (i := i)
  refine ⟨x.fb, (List.nodup_append.mp x.ndB).2.1, y.nd, y.dj, fun j a ha hc => ?_, fun a ha => ?_, fun a ha => ?_⟩
  · rcases upO_mem ha with ⟨_, h⟩ | ⟨_, h⟩
    · exact (List.nodup_append.mp x.ndB).2.2 a h a hc rfl
    · exact x.djB j a h (by simp [hc])
  · rcases ha with ha | ha
    · exact x.nf a (.inl (by simp [ha]))
    · exact y.nf a (.inr ha)
  · rcases ha with ha | ha
    · exact x.lt a (.inl (by simp [ha]))
    · exact y.lt a (.inr ha)
theorem ow_set2 {As : Own} {B C : List Nat} {i a : Nat} (h : ow (upO As i B) C a) : ow As (B ++ C) a := by
  rcases h with h | ⟨j, h⟩
  · exact .inl (by simp [h])
  · rcases upO_mem h with ⟨_, h⟩ | ⟨_, h⟩
    · exact .inl (by simp [h])
    · exact .inr ⟨j, h⟩
def Tgt.name (i : Nat) : Tgt := ⟨gName i, fun u σ => some (σ.set i (some u)), [i], fun d u g F B C As ρ σ σ' hr h iv e => by
  cases e
  exact ⟨_, _, rfl, env_set h hr, iv.set2, fun a => ow_set2, fun j hj => ⟨List.getElem?_set_ne (by simpa using Ne.symm (fun z => hj (by simp [z]))), upO_ne fun z => hj (by simp [z])⟩, by simp⟩⟩
def Tgts.nil : Tgts := ⟨gNil, fun us σ => match us with | [] => some σ | _ => none, [], fun ds us g F B C As ρ σ σ' hr h iv e => by
  cases us with
  | cons _ _ => cases e
  | nil =>
    cases e
    obtain ⟨rfl, rfl⟩ := hr
    exact ⟨ρ, As, rfl, h, iv, fun _ => id, fun _ _ => ⟨rfl, rfl⟩, rfl⟩⟩
def Tgts.cons (t : Tgt) (r : Tgts) : Tgts := ⟨gCons t.m r.m, fun us σ => match us with | u :: us => (t.v u σ).bind (r.v us) | [] => none, t.own ++ r.own, fun ds us g F B C As ρ σ σ' hr h iv e => by
  cases us with
  | nil => cases e
  | cons u us =>
    obtain ⟨d, ds, B1, B2, rfl, h1, h2, rfl⟩ := hr
    simp only [Option.bind_eq_some_iff] at e
    obtain ⟨σ1, e1, e2⟩ := e
    rw [List.append_assoc] at iv
    obtain ⟨ρ1, As1, a1, a2, a3, a4, a5, a6⟩ := t.ok d u g F B1 (B2 ++ C) As ρ σ σ1 h1 h iv e1
    obtain ⟨ρ2, As2, b1, b2, b3, b4, b5, b6⟩ := r.ok ds us g F B2 C As1 ρ1 σ1 σ' h2 a2 a3 e2
    refine ⟨ρ2, As2, ?_, b2, b3, fun a ha => by rw [List.append_assoc]; exact a4 a (b4 a ha), fun j hj => ?_, b6.trans a6⟩
    · show (t.m d ρ).bind (r.m ds) = _
      rw [a1]; exact b1
    · have x1 := a5 j fun z => hj (by simp [z])
      have x2 := b5 j fun z => hj (by simp [z])
      exact ⟨x2.1.trans x1.1, x2.2.trans x1.2⟩⟩
/-- a tuple's parts -/
def U.parts : U → Option (List U)
  | .fz (.tup ps) => some (ps.map .fz)
  | .tup us => some us
  | _ => none
theorem frs_rls {g : G} {F : Fz} : ∀ {ps : List P} {ds : List D}, frs g F ps ds → rls g F (ps.map .fz) ds []
  | [], _, h => ⟨h, rfl⟩
  | p :: ps, _, ⟨d, r, e, h1, h2⟩ => ⟨d, r, [], [], e, ⟨h1, rfl⟩, frs_rls h2, rfl⟩
def Tgt.tup (t : Tgts) : Tgt := ⟨gTup t.m, fun u σ => u.parts.bind fun us => t.v us σ, t.own, fun d u g F B C As ρ σ σ' hr h iv e => by
  simp only [Option.bind_eq_some_iff] at e
  obtain ⟨us, e1, e2⟩ := e
  have key : ∃ ds, d = .tup ds ∧ rls g F us ds B := by
    unfold U.parts at e1
    split at e1
    · cases e1
      obtain ⟨⟨ds, e, hf⟩, rfl⟩ := hr
      exact ⟨ds, e, frs_rls hf⟩
    · cases e1; exact hr
    · cases e1
  obtain ⟨ds, rfl, h2⟩ := key
  exact t.ok ds us g F B C As ρ σ σ' h2 h iv e2⟩
end Py
end

section
set_option autoImplicit false
set_option linter.all false
/-! Comprehensions, appending. -/
namespace Py
def wipeV (σ : VEnv) : List Nat → VEnv
  | [] => σ
  | v :: vs => (wipeV σ vs).set v none
def wipeO (As : Own) (own : List Nat) : Own := fun j => if j ∈ own then [] else As j
section
variable {Cx : Ctx} {g g1 g2 g' : G} {F F1 F2 F' : Fz} {As As1 As2 As' : Own} {B C : List Nat} {σ σ1 σ2 σ' : VEnv} {ρ ρ' ρ2 : Env} {u : U} {us : List U} {d : D} {ds : List D} {i r : Nat} {x : X} {xs : List X}
theorem wipeV_len : ∀ (own : List Nat), (wipeV σ own).length = σ.length
  | [] => rfl
  | v :: vs => by simp [wipeV, wipeV_len vs]
theorem wipeU_len : ∀ (own : List Nat), (wipe ρ own).length = ρ.length
  | [] => rfl
  | v :: vs => by simp [wipe, wipeU_len vs]
theorem wipeV_get {j : Nat} {u : U} : ∀ {own : List Nat}, (wipeV σ own)[j]? = some (some u) → j ∉ own ∧ σ[j]? = some (some u)
  | [], h => ⟨by simp, h⟩
  | v :: vs, h => by
    simp only [wipeV] at h
    by_cases e : v = j
    · subst e
      rw [List.getElem?_set] at h
      split at h
      · split at h <;> cases h
      · rename_i z; exact absurd rfl z
    · rw [List.getElem?_set_ne e] at h
      have := wipeV_get h
      exact ⟨by simp; exact ⟨Ne.symm e, this.1⟩, this.2⟩
theorem wipeU_get {j : Nat} : ∀ {own : List Nat}, j ∉ own → (wipe ρ own)[j]? = ρ[j]?
  | [], h => rfl
  | v :: vs, h => by
    simp only [List.mem_cons, not_or] at h
    simp only [wipe]
    rw [List.getElem?_set_ne (Ne.symm h.1)]
    exact wipeU_get h.2
theorem env_wipe {own : List Nat} (h : env [] g F σ ρ2 As) (he : ∀ j, j ∉ own → ρ2[j]? = ρ[j]?) (hl : ρ2.length = ρ.length) : env [] g F (wipeV σ own) ρ (wipeO As own) := by
  refine ⟨by rw [wipeV_len, h.1, hl], fun j u hu => ?_, fun _ h => by cases h⟩
  obtain ⟨hj, hu⟩ := wipeV_get hu
  obtain ⟨d, hd, hr⟩ := h.2 j u hu
  exact ⟨d, by rw [← he j hj]; exact hd, by simp only [wipeO, if_neg hj]; exact hr⟩
theorem wipeO_mem {own : List Nat} {j a : Nat} (h : a ∈ wipeO As own j) : a ∈ As j := by
  unfold wipeO at h
  split at h
  · cases h
  · exact h
theorem Iv.wipe {own : List Nat} (x : Iv g F As C) : Iv g F (wipeO As own) C := ⟨x.fb, x.ndB, fun j => by unfold wipeO; split; exact List.nodup_nil; exact x.nd j, fun i j a hi hj => x.dj i j a (wipeO_mem hi) (wipeO_mem hj), fun i a ha => x.djB i a (wipeO_mem ha), fun a ha => x.nf a (ha.imp id fun ⟨i, h⟩ => ⟨i, wipeO_mem h⟩), fun a ha => x.lt a (ha.imp id fun ⟨i, h⟩ => ⟨i, wipeO_mem h⟩)⟩
theorem ow_wipe {own : List Nat} {a : Nat} (h : ow (wipeO As own) C a) : ow As C a := h.imp id fun ⟨i, h⟩ => ⟨i, wipeO_mem h⟩
theorem kp_set {o : O} {X : Nat → Prop} (h : ¬ X r) : Kp g (g.set r o) X := Kp.of_eq fun a ha _ => List.getElem?_set_ne (by rintro rfl; exact h ha)
theorem rls_snoc : ∀ {us : List U} {ds : List D} {A B : List Nat} {u : U} {d : D}, rls g F us ds A → rl g F u d B → rls g F (us ++ [u]) (ds ++ [d]) (A ++ B)
  | [], _, _, B, u, d, h, h' => by obtain ⟨rfl, rfl⟩ := h; exact ⟨d, [], B, [], rfl, h', ⟨rfl, rfl⟩, by simp⟩
  | w :: us, _, _, B, u, d, ⟨d', r, C, E, e, h1, h2, eA⟩, h' => by
    rw [e, eA]
    exact ⟨d', _, C, E ++ B, rfl, h1, rls_snoc h2 h', by simp⟩
/-- a list in hand is written -/
theorem wr_hand {o : O} (h : env Cx g F σ ρ As) (iv : Iv g F As C) (hr : r ∈ C) : env Cx (g.set r o) F σ ρ As ∧ Iv (g.set r o) F As C ∧ Sp g F (ow As C) (g.set r o) F (ow As C) := by
  refine ⟨env_go h (fun _ => id) (kp_set fun z => iv.nf r (.inl hr) z) (kp_set fun ⟨i, z⟩ => iv.djB i r z hr), ⟨fun a ha => by simpa using iv.fb a ha, iv.ndB, iv.nd, iv.dj, iv.djB, iv.nf, fun a ha => by simpa using iv.lt a ha⟩, by simp, fun i hi hw => List.getElem?_set_ne (by rintro rfl; exact hw (.inl hr)), fun _ => id, fun _ => .inl, fun _ => .inl⟩
/-- the list of slot i is written -/
theorem wr_slot {xs' : List D} {u' : U} {A' : List Nat} (h : env Cx g F σ ρ As) (iv : Iv g F As B) (hd : ρ[i]? = some (some (.ref r))) (hr : r ∈ As i) (hu' : rl (g.set r (.lst xs')) F u' (.ref r) A') (sub : ∀ a, a ∈ A' → a ∈ As i ∨ a ∈ B) (nd : A'.Nodup) :
    env Cx (g.set r (.lst xs')) F (σ.set i (some u')) ρ (upO As i A') ∧ Iv (g.set r (.lst xs')) F (upO As i A') [] ∧ Sp g F (ow As B) (g.set r (.lst xs')) F (ow (upO As i A') []) := by
  have hs : ∀ a, ow (upO As i A') [] a → ow As B a := fun a ha => by
    rcases ha with ha | ⟨j, ha⟩
    · cases ha
    · rcases upO_mem ha with ⟨_, h⟩ | ⟨_, h⟩
      · exact (sub a h).elim (fun h => .inr ⟨i, h⟩) .inl
      · exact .inr ⟨j, h⟩
  have hrF : ¬ F r := iv.nf r (.inr ⟨i, hr⟩)
  refine ⟨⟨by simp [h.1], fun j w hw => ?_, fun q hq => pinR_go (fun _ => id) (kp_set hrF) (h.pins q hq)⟩, ⟨fun a ha => by simpa using iv.fb a ha, List.nodup_nil, fun j => ?_, fun j k a hj hk => ?_, fun _ _ _ h => (by cases h), fun a ha => iv.nf a (hs a ha), fun a ha => by simpa using iv.lt a (hs a ha)⟩, by simp, fun k hk hw => List.getElem?_set_ne (by rintro rfl; exact hw (.inr ⟨i, hr⟩)), fun _ => id, fun _ => .inl, fun k hk => .inl (hs k hk)⟩
  · by_cases e : j = i
    · subst e
      have hl : j < σ.length := by have := (List.getElem?_eq_some_iff.mp hw).1; simpa using this
      rw [List.getElem?_set_self hl] at hw
      cases hw
      exact ⟨_, hd, by rw [upO_at]; exact hu'⟩
    · rw [List.getElem?_set_ne (Ne.symm e)] at hw
      rw [upO_ne e]
      obtain ⟨d, h1, h2⟩ := h.2 j w hw
      exact ⟨d, h1, rl_go (fun _ => id) (kp_set hrF) _ _ _ (kp_set fun z => e (iv.dj j i r z hr)) h2⟩
  · by_cases e : j = i
    · subst e; rw [upO_at]; exact nd
    · rw [upO_ne e]; exact iv.nd j
  · rcases upO_mem hj with ⟨e1, h1⟩ | ⟨e1, h1⟩ <;> rcases upO_mem hk with ⟨e2, h2⟩ | ⟨e2, h2⟩
    · rw [e1, e2]
    · rcases sub a h1 with z | z
      · exact absurd (iv.dj _ _ _ h2 z) e2
      · exact absurd z (iv.djB _ _ h2)
    · rcases sub a h2 with z | z
      · exact absurd (iv.dj _ _ _ h1 z) e1
      · exact absurd z (iv.djB _ _ h1)
    · exact iv.dj _ _ _ h1 h2
/-! ### comprehensions -/
def lcGoV (t : U → VEnv → Option VEnv) (c : VT) (e : VM) (own : List Nat) : List P → VEnv → List U → VR (List U)
  | [], σ, acc => .ok acc σ
  | p :: ps, σ, acc => match t (.fz p) σ with
    | none => .bad
    | some σ1 => match c σ1 with
      | .ok true σ2 => match e σ2 with
        | .ok (.u y) σ3 => if acc.length < LINE then lcGoV t c e own ps (wipeV σ3 own) (acc ++ [y]) else .bad
        | _ => .bad
      | .ok false σ2 => lcGoV t c e own ps (wipeV σ2 own) acc
      | _ => .bad
theorem lcGo_ok (t : Tgt) (c : Te []) (e : E []) {it : Nat → G → Option (Option D)} : ∀ (ps : List P) (ds : List D) (i : Nat) (g : G) (F : Fz) (As : Own) (σ : VEnv) (acc : List U) (xs : List D) (B : List Nat),
    (∀ g', Kp g g' F → ∀ j, it (i + j) g' = some ds[j]?) → frs g F ps ds → env [] g F σ ρ As → Iv g F As (r :: B) → g[r]? = some (.lst xs) → rls g F acc xs B →
    match lcGoV t.v c.v e.v t.own ps σ acc with
    | .ok us σ' => ∃ g' F' As' B' xs', lcGo it t.m c.m e.m ρ r (ds.length + 1) i g = .ok (.ref r) g' ∧ env [] g' F' σ' ρ As' ∧ Iv g' F' As' (r :: B') ∧ g'[r]? = some (.lst xs') ∧ rls g' F' us xs' B' ∧ Sp g F (ow As (r :: B)) g' F' (ow As' (r :: B'))
    | .exc _ _ => False
    | .bad => True := by
  intro ps
  induction ps with
  | nil =>
    intro ds i g F As σ acc xs B look hps h iv hr hacc
    cases hps
    refine ⟨g, F, As, B, xs, ?_, h, iv, hr, hacc, Sp.refl _ _ _⟩
    unfold lcGo
    rw [show it i g = some none from by simpa using look g Kp.rfl' 0]
  | cons p ps ih =>
    intro ds i g F As σ acc xs B look hps h iv hr hacc
    obtain ⟨d, ds, rfl, hp, hps⟩ := hps
    unfold lcGoV
    cases ht : t.v (.fz p) σ with
    | none => trivial
    | some σ1 =>
      obtain ⟨ρ2, As1, a1, a2, a3, a4, a5, a6⟩ := t.ok d (.fz p) g F [] (r :: B) As ρ σ σ1 ⟨hp, rfl⟩ h iv ht
      have hit : it i g = some (some d) := by simpa using look g Kp.rfl' 0
      have hc := c.ok ρ2 σ1 g F As1 a2 a3.none
      have step : ∀ (g2 : G) (F2 : Fz) (As2 : Own) (σ2 : VEnv) (acc2 : List U) (xs2 : List D) (B2 : List Nat), env [] g2 F2 σ2 ρ2 As2 → Iv g2 F2 As2 (r :: B2) → g2[r]? = some (.lst xs2) → rls g2 F2 acc2 xs2 B2 → Sp g F (ow As1 (r :: B)) g2 F2 (ow As2 (r :: B2)) → lcGo it t.m c.m e.m ρ r (ds.length + 1 + 1) i g = lcGo it t.m c.m e.m ρ r (ds.length + 1) (i + 1) g2 →
          match lcGoV t.v c.v e.v t.own ps (wipeV σ2 t.own) acc2 with
          | .ok us σ' => ∃ g' F' As' B' xs', lcGo it t.m c.m e.m ρ r ((d :: ds).length + 1) i g = .ok (.ref r) g' ∧ env [] g' F' σ' ρ As' ∧ Iv g' F' As' (r :: B') ∧ g'[r]? = some (.lst xs') ∧ rls g' F' us xs' B' ∧ Sp g F (ow As (r :: B)) g' F' (ow As' (r :: B'))
          | .exc _ _ => False
          | .bad => True := by
        intro g2 F2 As2 σ2 acc2 xs2 B2 h2 iv2 hr2 hacc2 s2 eq
        have kF : Kp g g2 F := Kp.of_eq fun a ha hl => s2.keep a hl fun hw => iv.nf a (a4 a hw) ha
        have := ih ds (i + 1) g2 F2 (wipeO As2 t.own) (wipeV σ2 t.own) acc2 xs2 B2 (fun g' k j => by
          have := look g' (kF.trans (k.mono s2.mono)) (j + 1)
          rw [show i + 1 + j = i + (j + 1) by omega]
          simpa using this) (frs_go s2.mono kF ps ds hps) (env_wipe h2 (fun j hj => (a5 j hj).1) a6) iv2.wipe hr2 hacc2
        cases hg : lcGoV t.v c.v e.v t.own ps (wipeV σ2 t.own) acc2 with
        | ok us σ' =>
          rw [hg] at this
          obtain ⟨g', F', As', B', xs', e1, e2, e3, e4, e5, e6⟩ := this
          refine ⟨g', F', As', B', xs', ?_, e2, e3, e4, e5, ?_⟩
          · rw [List.length_cons, eq]; exact e1
          · exact ((s2.less fun _ => ow_wipe).trans e6).wk fun a ha => a4 a ha
        | exc x σ' => rw [hg] at this; exact this
        | bad => trivial
      have go1 : lcGo it t.m c.m e.m ρ r (ds.length + 1 + 1) i g = match c.m ρ2 g with
        | .ok true g3 => match e.m ρ2 g3 with
          | .ok y g4 => match mutOf (.ref r) g4 with
            | some (_, xs) => if xs.length < LINE then lcGo it t.m c.m e.m ρ r (ds.length + 1) (i + 1) (g4.set r (.lst (xs ++ [y]))) else .bad
            | none => .bad
          | _ => .bad
        | .ok false g3 => lcGo it t.m c.m e.m ρ r (ds.length + 1) (i + 1) g3
        | _ => .bad := by
        conv => lhs; unfold lcGo
        rw [hit]
        dsimp only
        rw [a1] <;> rfl
      dsimp only
      cases hcv : c.v σ1 with
      | exc x σ' => trivial
      | bad => trivial
      | ok b σ2 =>
        rw [hcv] at hc
        obtain ⟨b', g2, F2, As2, B2, c1, ⟨rfl, rfl⟩, c2⟩ := hc
        obtain ⟨k1, k2, i2, s2⟩ := frame a3 c2.sp c2.iv
        rw [List.append_nil] at i2 s2
        have hr2 := k2.get (r := r) (by simp) hr
        have hacc2 := rls_go s2.mono k1 acc xs B (k2.mono fun a ha => by simp [ha]) hacc
        cases b with
        | false =>
          dsimp only
          refine step g2 F2 As2 σ2 acc xs B c2.env i2 hr2 hacc2 s2 ?_
          rw [go1, c1]
        | true =>
          dsimp only
          have he := e.ok ρ2 σ2 g2 F2 As2 c2.env i2.none
          cases hev : e.v σ2 with
          | exc x σ' => trivial
          | bad => trivial
          | ok x σ3 =>
            cases x with
            | ln _ => trivial
            | u y =>
              dsimp only
              rw [hev] at he
              obtain ⟨y', g3, F3, As3, B3, e1, e2, e3⟩ := he
              obtain ⟨k3, k4, i3, s3⟩ := frame i2 e3.sp e3.iv
              have hr3 := k4.get (r := r) (by simp) hr2
              have hacc3 := rls_go s3.mono k3 acc xs B (k4.mono fun a ha => by simp [ha]) hacc2
              by_cases hl : acc.length < LINE
              · rw [if_pos hl]
                have hmem : r ∈ (r :: B) ++ B3 := by simp
                obtain ⟨w1, w2, w3⟩ := wr_hand (o := .lst (xs ++ [y'])) e3.env i3 hmem
                have nB : r ∉ B ++ B3 := fun z => (List.nodup_cons.mp (show (r :: (B ++ B3)).Nodup from i3.ndB)).1 z
                refine step _ F3 As3 σ3 (acc ++ [y]) (xs ++ [y']) (B ++ B3) w1 w2 (get_set' (List.getElem?_eq_some_iff.mp hr3).1) ?_ (s2.trans (s3.trans w3)) ?_
                · have hrF : ¬ F3 r := i3.nf r (.inl hmem)
                  exact rls_go (fun _ => id) (kp_set hrF) _ _ _ (kp_set nB) (rls_snoc hacc3 e2)
                · rw [go1, c1]
                  dsimp only
                  rw [e1]
                  dsimp only
                  rw [mutOf_lst hr3]
                  dsimp only
                  rw [if_pos (by rw [rls_len hacc3]; exact hl)]
              · rw [if_neg hl]; trivial
where get_set' {g : G} {r : Nat} {o : O} (h : r < g.length) : (g.set r o)[r]? = some o := List.getElem?_set_self h
def lcV (w : VEnv → VR (List P)) (t : U → VEnv → Option VEnv) (c : VT) (e : VM) (own : List Nat) : VM := fun σ => (w σ).bind fun ps σ1 => (lcGoV t c e own ps (wipeV σ1 own) []).bind fun us σ2 => .ok (.u (mkLst us)) (wipeV σ2 own)
def E.lc (w : It Cx) (t : Tgt) (c : Te []) (e : E []) : E Cx := ⟨mLc w.m t.m c.m e.m t.own, lcV w.v t.v c.v e.v t.own, fun ρ σ g F As h iv => (w.ok ρ σ g F As h iv).bind fun ps it g1 F1 As1 σ1 B1 h1 k1 => by
  obtain ⟨⟨ds, d1, d2, d3⟩, rfl⟩ := h1
  have hw := env_wipe (ρ := wipe ρ t.own) (own := t.own) (env_nil k1.env) (fun j hj => (wipeU_get hj).symm) (wipeU_len _).symm
  have iw := k1.iv.wipe (own := t.own)
  obtain ⟨b1, b2, b3⟩ := grow (t := [.lst []]) (B := [g1.length]) iw hw (by simp) (by simp)
  have := lcGo_ok (it := it.get) (ρ := wipe ρ t.own) (r := g1.length) t c e ps ds 0 (g1 ++ [.lst []]) F1 (wipeO As1 t.own) (wipeV σ1 t.own) [] [] [] (fun g' k j => by rw [Nat.zero_add]; exact d3 g' (kp_grow.trans k) j) (frs_go (fun _ => id) kp_grow _ _ d1) b2 b1 (get_snoc _ _) ⟨rfl, rfl⟩
  rw [← d2] at this
  cases hg : lcGoV t.v c.v e.v t.own ps (wipeV σ1 t.own) [] with
  | bad => exact SimV.bad
  | exc x σ2 => rw [hg] at this; exact this.elim
  | ok us σ2 =>
    rw [hg] at this
    obtain ⟨g', F', As', B', xs', e1, e2, e3, e4, e5, e6⟩ := this
    simp only [VR.bind_ok]
    rw [e1]
    have s3 := ((b3.wk fun _ => ow_wipe).trans e6).less (W2 := ow (wipeO As' t.own) (g1.length :: B')) fun _ => ow_wipe
    refine SimV.ok (mkLst_rl e5 e4) ⟨env_pins k1.env s3.mono (Kp.of_eq fun a ha hl => s3.keep a hl fun hw => k1.iv.nf a hw ha) (env_wipe e2 (fun j hj => wipeU_get hj) (wipeU_len _)), e3.wipe, ?_⟩
    exact k1.sp.trans s3⟩
end
end Py
end

section
set_option autoImplicit false
set_option linter.all false
/-! Appending; calls. -/
namespace Py
def appU : U → U → Option U
  | .own ps, .fz p => if ps.length < LINE then some (.own (ps ++ [p])) else none
  | .own ps, u => if ps.length < LINE then some (.nst (ps.map .fz ++ [u])) else none
  | .nst us, u => if us.length < LINE then some (.nst (us ++ [u])) else none
  | _, _ => none
def isL : U → Bool
  | .own _ => true
  | .nst _ => true
  | _ => false
section
variable {Cx : Ctx} {g g1 g2 g' : G} {F F1 F2 F' : Fz} {As As1 As2 As' : Own} {A B C : List Nat} {σ σ1 σ2 σ' : VEnv} {ρ ρ' ρ2 : Env} {u u1 u2 y : U} {us : List U} {d : D} {ds : List D} {i r : Nat} {x : X} {xs : List X}
theorem own_nst {ps : List P} (h : rl g F (.own ps) d A) : rl g F (.nst (ps.map .fz)) d A := by
  obtain ⟨r, xs, e, hx, h, eA⟩ := h
  exact ⟨r, xs, [], e, hx, frs_rls h, eA⟩
theorem app_nst (h1 : rl g F (.nst us) (.ref r) A) (h2 : rl g F y d B) (nd : (A ++ B).Nodup) (nf : ¬ F r) : r ∈ A ∧ ∃ xs, g[r]? = some (.lst xs) ∧ xs.length = us.length ∧ rl (g.set r (.lst (xs ++ [d]))) F (.nst (us ++ [y])) (.ref r) (A ++ B) := by
  obtain ⟨r', xs, C, e, hx, h, rfl⟩ := h1
  cases e
  have hn : r ∉ C ++ B := (List.nodup_cons.mp (show (r :: (C ++ B)).Nodup from nd)).1
  exact ⟨by simp, xs, hx, rls_len h, r, _, C ++ B, rfl, List.getElem?_set_self (List.getElem?_eq_some_iff.mp hx).1, rls_go (fun _ => id) (kp_set nf) _ _ _ (kp_set hn) (rls_snoc h h2), rfl⟩
theorem appU_rl (h1 : rl g F u1 (.ref r) A) (h2 : rl g F y d B) (nd : (A ++ B).Nodup) (nf : ¬ F r) (e : appU u1 y = some u2) : r ∈ A ∧ ∃ xs, g[r]? = some (.lst xs) ∧ xs.length < LINE ∧ rl (g.set r (.lst (xs ++ [d]))) F u2 (.ref r) (A ++ B) := by
  unfold appU at e
  split at e
  · rename_i ps p
    split at e
    · rename_i hl
      cases e
      obtain ⟨r', xs, e, hx, h, rfl⟩ := h1
      cases e
      obtain ⟨h2, rfl⟩ := h2
      exact ⟨by simp, xs, hx, by rw [frs_len h]; exact hl, r, _, rfl, List.getElem?_set_self (List.getElem?_eq_some_iff.mp hx).1, frs_go (fun _ => id) (kp_set nf) _ _ (frs_snoc h h2), by simp⟩
    · cases e
  · rename_i ps _
    split at e
    · rename_i hl
      cases e
      obtain ⟨a, xs, b, c, d⟩ := app_nst (own_nst h1) h2 nd nf
      exact ⟨a, xs, b, by rw [c, List.length_map]; exact hl, d⟩
    · cases e
  · rename_i ps
    split at e
    · rename_i hl
      cases e
      obtain ⟨a, xs, b, c, d⟩ := app_nst h1 h2 nd nf
      exact ⟨a, xs, b, by rw [c]; exact hl, d⟩
    · cases e
  · cases e
theorem isL_ref (h : rl g F u d A) (hl : isL u = true) : ∃ r xs, d = .ref r ∧ g[r]? = some (.lst xs) ∧ r ∈ A := by
  cases u with
  | own ps => obtain ⟨r, xs, e, hx, h, rfl⟩ := h; exact ⟨r, xs, e, hx, by simp⟩
  | nst us => obtain ⟨r, xs, C, e, hx, h, rfl⟩ := h; exact ⟨r, xs, e, hx, by simp⟩
  | _ => cases hl
theorem appU_isL (e : appU u1 y = some u2) : isL u1 = true := by
  cases u1 <;> first | rfl | (cases y <;> cases e)
def appV (i : Nat) (e : VM) : VM := fun σ => match σ[i]? with
  | some (some u0) => if isL u0 then (e σ).bind fun x σ1 => match xU x, σ1[i]? with
    | some y, some (some u1) => match appU u1 y with | some u2 => .ok (.u (.fz .non)) (σ1.set i (some u2)) | none => .bad
    | _, _ => .bad else .bad
  | _ => .bad
/-- slot i's ownership and what is in hand -/
theorem Iv.nd2 (iv : Iv g F As B) (i : Nat) : (As i ++ B).Nodup := List.nodup_append.mpr ⟨iv.nd i, iv.ndB, fun a ha b hb e => iv.djB i a ha (e ▸ hb)⟩
def E.app (i : Nat) (e : E Cx) : E Cx := ⟨mApp (mVar i) e.m, appV i e.v, fun ρ σ g F As h iv => by
  unfold appV
  split
  · rename_i u0 hu0
    split
    · rename_i hl
      obtain ⟨d0, hd0, hr0⟩ := h.2 i u0 hu0
      obtain ⟨r, xs0, rfl, hx0, _⟩ := isL_ref hr0 hl
      show SimV Cx _ g F As ρ ((mVar i ρ g).bind fun x g1 => if (lstOf x g1).isSome then (e.m ρ g1).bind fun y g2 => ofO (oAppend x y g2) else .bad) _
      rw [var_ok hd0, R.bind_ok, if_pos (by rw [lstOf_lst hx0]; rfl)]
      refine (e.ok ρ σ g F As h iv).bind fun x d g1 F1 As1 σ1 B1 h1 k1 => ?_
      cases x with
      | ln _ => exact SimV.bad
      | u y =>
        dsimp only [xU]
        cases hs : σ1[i]? with
        | none => exact SimV.bad
        | some o =>
          cases o with
          | none => exact SimV.bad
          | some u1 =>
            dsimp only
            obtain ⟨d1, hd1, hr1⟩ := k1.env.2 i u1 hs
            rw [hd0] at hd1
            cases hd1
            cases ha : appU u1 y with
            | none => exact SimV.bad
            | some u2 =>
              dsimp only
              obtain ⟨r2, _, er, _, hrm⟩ := isL_ref hr1 (appU_isL ha)
              cases er
              obtain ⟨hm, xs, hx, hlen, hnew⟩ := appU_rl hr1 h1 (k1.iv.nd2 i) (k1.iv.nf r (.inr ⟨i, hrm⟩)) ha
              have eq : oAppend (.ref r) d g1 = some (.non, g1.set r (.lst (xs ++ [d]))) := by
                unfold oAppend
                rw [mutOf_lst hx]
                dsimp only
                rw [if_pos hlen]
              rw [eq]
              obtain ⟨w1, w2, w3⟩ := wr_slot k1.env k1.iv hd0 hm hnew (fun a ha => by simpa using ha) (k1.iv.nd2 i)
              exact SimV.ok (B := []) ⟨rfl, rfl⟩ ⟨w1, w2, k1.sp.trans w3⟩
    · exact SimV.bad
  · exact SimV.bad⟩
/-! ### calls -/
inductive VF where
  | ok (u : U) (outs : VEnv) | exc (x : VX) (outs : VEnv) | bad
def SimF (m : Py.F) (v : List U → VF) : Prop := ∀ (ds : List D) (us : List U) (g : G) (F : Fz) (As : Own), env [] g F (us.map some) (ds.map some) As → Iv g F As [] → match v us with
  | .ok u outs => ∃ d g' F' As' B, m ds g = .ok d g' ∧ rl g' F' u d B ∧ env [] g' F' outs (ds.map some) As' ∧ Iv g' F' As' B ∧ Sp g F (ow As []) g' F' (ow As' B)
  | .exc x outs => ∃ e g' F' As', m ds g = .exc e g' ∧ xr g' F' x e ∧ env [] g' F' outs (ds.map some) As' ∧ Iv g' F' As' [] ∧ Sp g F (ow As []) g' F' (ow As' [])
  | .bad => True
structure Fn where
  m : Py.F
  v : List U → VF
  ios : List Nat
  ok : SimF m v
theorem rxs_split : ∀ {xs : List X} {ds : List D} {B : List Nat}, rxs g F ρ xs ds B → ∃ Bs : Nat → List Nat, (∀ (k : Nat) (x : X), xs[k]? = some x → ∃ d, ds[k]? = some d ∧ rx g F ρ x d (Bs k)) ∧ (∀ k a, a ∈ Bs k → a ∈ B) ∧ (B.Nodup → (∀ k, (Bs k).Nodup) ∧ ∀ j k a, a ∈ Bs j → a ∈ Bs k → j = k) ∧ (∀ k, xs.length ≤ k → Bs k = []) ∧ ds.length = xs.length
  | [], ds, B, h => ⟨fun _ => [], fun k x e => by simp at e, fun _ _ h => (by cases h), fun _ => ⟨fun _ => List.nodup_nil, fun _ _ _ h => (by cases h)⟩, fun _ _ => rfl, by rw [h.1]; rfl⟩
  | x :: xs, _, B, ⟨d, r, C, E, e, h1, h2, eB⟩ => by
    obtain ⟨Bs, a, b, c, z, hl⟩ := rxs_split h2
    refine ⟨fun k => match k with | 0 => C | k + 1 => Bs k, fun k y hy => ?_, fun k a ha => ?_, fun nd => ?_, fun k hk => ?_, by rw [e]; simp [hl]⟩
    · cases k with
      | zero => cases hy; exact ⟨d, by rw [e]; rfl, h1⟩
      | succ k => obtain ⟨d', e1, e2⟩ := a k y (by simpa using hy); exact ⟨d', by rw [e]; simpa using e1, e2⟩
    · rw [eB]
      cases k with
      | zero => simp [show a ∈ C from ha]
      | succ k => simp [b k a ha]
    · rw [eB] at nd
      obtain ⟨n1, n2, n3⟩ := List.nodup_append.mp nd
      obtain ⟨c1, c2⟩ := c n2
      refine ⟨fun k => ?_, fun j k a hj hk => ?_⟩
      · cases k with
        | zero => exact n1
        | succ k => exact c1 k
      · cases j with
        | zero =>
          cases k with
          | zero => rfl
          | succ k => exact absurd rfl (n3 a hj a (b k a hk))
        | succ j =>
          cases k with
          | zero => exact absurd rfl (n3 a hk a (b j a hj))
          | succ k => rw [c2 j k a hj hk]
    · cases k with
      | zero => simp at hk
      | succ k => exact z k (by simpa using hk)
/-- the argument k as the callee sees it -/
def argU (io : Bool) (σ : VEnv) : X → Option U
  | .u u => some (if io then u else .fz u.toP)
  | .ln i => match σ[i]? with | some (some u) => some (if io then u else .fz u.toP) | _ => none
def argsU (ios : List Nat) (σ : VEnv) : Nat → List X → Option (List U)
  | _, [] => some []
  | k, x :: r => match argU (ios.contains k) σ x, argsU ios σ (k + 1) r with | some u, some us => some (u :: us) | _, _ => none
def loans : List X → List Nat
  | [] => []
  | .u _ :: r => loans r
  | .ln i :: r => i :: loans r
/-- the slots behind a call -/
def back (ios : List Nat) (nr : Bool) (outs : VEnv) : Nat → List X → VEnv → VEnv
  | _, [], σ => σ
  | k, .u _ :: r, σ => back ios nr outs (k + 1) r σ
  | k, .ln i :: r, σ => back ios nr outs (k + 1) r (if ios.contains k then σ.set i (outs.getD k none) else if nr then σ else match σ[i]? with | some (some u) => σ.set i (some (.fz u.toP)) | _ => σ)
def nrO : VEnv → Bool
  | [] => true
  | none :: r => nrO r
  | some u :: r => u.nr && nrO r
def nrX (x : VX) : Bool := match x.fs with | none => true | some fs => P.flat.flats (fs.map Prod.snd)
def callV (f : List U → VF) (ios : List Nat) (as : VA) : VM := fun σ => (as σ).bind fun xs σ2 => if (loans xs).Nodup then match argsU ios σ2 0 xs with
  | some us => match f us with
    | .ok u outs => .ok (.u u) (back ios (u.nr && nrO outs) outs 0 xs σ2)
    | .exc x outs => .exc x (back ios (nrX x && nrO outs) outs 0 xs σ2)
    | .bad => .bad
  | none => .bad else .bad
/-- the place among the arguments where slot j is lent -/
def lix : List X → Nat → Option Nat
  | [], _ => none
  | .u _ :: r, j => (lix r j).map (· + 1)
  | .ln i :: r, j => if i = j then some 0 else (lix r j).map (· + 1)
theorem lix_some {j : Nat} : ∀ {xs : List X} {k : Nat}, lix xs j = some k → xs[k]? = some (.ln j)
  | [], _, h => by cases h
  | .u _ :: r, k, h => by
    simp only [lix, Option.map_eq_some_iff] at h
    obtain ⟨m, h, rfl⟩ := h
    simpa using lix_some h
  | .ln i :: r, k, h => by
    simp only [lix] at h
    split at h
    · rename_i e; cases h; rw [e]; rfl
    · simp only [Option.map_eq_some_iff] at h
      obtain ⟨m, h, rfl⟩ := h
      simpa using lix_some h
theorem loans_mem {j : Nat} : ∀ {xs : List X}, j ∈ loans xs ↔ ∃ k : Nat, xs[k]? = some (.ln j)
  | [] => by simp [loans]
  | .u _ :: r => by
    simp only [loans]
    rw [loans_mem]
    exact ⟨fun ⟨k, h⟩ => ⟨k + 1, by simpa using h⟩, fun ⟨k, h⟩ => by cases k with | zero => cases h | succ k => exact ⟨k, by simpa using h⟩⟩
  | .ln i :: r => by
    simp only [loans, List.mem_cons]
    rw [loans_mem]
    constructor
    · rintro (rfl | ⟨k, h⟩)
      · exact ⟨0, rfl⟩
      · exact ⟨k + 1, by simpa using h⟩
    · rintro ⟨k, h⟩
      cases k with
      | zero => cases h; exact .inl rfl
      | succ k => exact .inr ⟨k, by simpa using h⟩
theorem lix_none {j : Nat} : ∀ {xs : List X}, lix xs j = none → j ∉ loans xs
  | [], _ => by simp [loans]
  | .u _ :: r, h => by simp only [lix, Option.map_eq_none_iff] at h; simpa [loans] using lix_none h
  | .ln i :: r, h => by
    simp only [lix] at h
    split at h
    · cases h
    · rename_i e
      simp only [Option.map_eq_none_iff] at h
      simp only [loans, List.mem_cons, not_or]
      exact ⟨Ne.symm e, lix_none h⟩
theorem loans_inj {i : Nat} : ∀ {xs : List X}, (loans xs).Nodup → ∀ {j k : Nat}, xs[j]? = some (.ln i) → xs[k]? = some (.ln i) → j = k
  | [], _, j, k, h, _ => by simp at h
  | .u _ :: r, nd, j, k, hj, hk => by
    cases j with
    | zero => cases hj
    | succ j =>
      cases k with
      | zero => cases hk
      | succ k => exact congrArg (· + 1) (loans_inj (xs := r) nd (by simpa using hj) (by simpa using hk))
  | .ln m :: r, nd, j, k, hj, hk => by
    simp only [loans, List.nodup_cons] at nd
    cases j with
    | zero =>
      cases k with
      | zero => rfl
      | succ k => cases hj; exact absurd (loans_mem.mpr ⟨k, by simpa using hk⟩) nd.1
    | succ j =>
      cases k with
      | zero => cases hk; exact absurd (loans_mem.mpr ⟨j, by simpa using hj⟩) nd.1
      | succ k => exact congrArg (· + 1) (loans_inj nd.2 (by simpa using hj) (by simpa using hk))
/-- what becomes of a slot that was lent as argument k -/
def bk1 (ios : List Nat) (nr : Bool) (outs : VEnv) (k : Nat) (o : Option (Option U)) : Option (Option U) := if ios.contains k then o.map (fun _ => outs.getD k none) else if nr then o else match o with | some (some u) => some (some (.fz u.toP)) | o => o
theorem back_no {ios : List Nat} {nr : Bool} {outs : VEnv} {j : Nat} : ∀ {xs : List X} {k : Nat} {σ : VEnv}, j ∉ loans xs → (back ios nr outs k xs σ)[j]? = σ[j]?
  | [], _, _, _ => rfl
  | .u _ :: r, k, σ, h => by simp only [back]; exact back_no (by simpa [loans] using h)
  | .ln i :: r, k, σ, h => by
    simp only [loans, List.mem_cons, not_or] at h
    simp only [back]
    rw [back_no h.2]
    split
    · exact List.getElem?_set_ne (Ne.symm h.1)
    · split
      · rfl
      · split
        · exact List.getElem?_set_ne (Ne.symm h.1)
        · rfl
theorem back_at {ios : List Nat} {nr : Bool} {outs : VEnv} {j : Nat} : ∀ {xs : List X} {k m : Nat} {σ : VEnv}, (loans xs).Nodup → xs[m]? = some (.ln j) → (back ios nr outs k xs σ)[j]? = bk1 ios nr outs (k + m) σ[j]?
  | [], _, _, _, _, h => by simp at h
  | .u _ :: r, k, m, σ, nd, h => by
    cases m with
    | zero => cases h
    | succ m =>
      simp only [back]
      rw [back_at (xs := r) (m := m) nd (by simpa using h), show k + 1 + m = k + (m + 1) by omega]
  | .ln i :: r, k, m, σ, nd, h => by
    simp only [loans, List.nodup_cons] at nd
    cases m with
    | zero =>
      cases h
      simp only [back, Nat.add_zero]
      rw [back_no nd.1]
      unfold bk1
      split
      · rw [List.getElem?_set]
        by_cases hl : j < σ.length
        · simp [hl]
        · simp [hl, List.getElem?_eq_none (Nat.le_of_not_lt hl)]
      · split
        · rfl
        · split
          · rename_i u hu
            have := (List.getElem?_eq_some_iff.mp hu).1
            rw [List.getElem?_set_self this]
          · rfl
    | succ m =>
      have hm : r[m]? = some (.ln j) := by simpa using h
      have hne : i ≠ j := by rintro rfl; exact nd.1 (loans_mem.mpr ⟨m, hm⟩)
      simp only [back]
      rw [back_at nd.2 hm, show k + 1 + m = k + (m + 1) by omega]
      congr 1
      split
      · exact List.getElem?_set_ne hne
      · split
        · rfl
        · split
          · exact List.getElem?_set_ne hne
          · rfl
theorem back_len {ios : List Nat} {nr : Bool} {outs : VEnv} : ∀ {xs : List X} {k : Nat} {σ : VEnv}, (back ios nr outs k xs σ).length = σ.length
  | [], _, _ => rfl
  | .u _ :: r, k, σ => by simp only [back]; exact back_len
  | .ln i :: r, k, σ => by
    simp only [back]
    rw [back_len]
    split
    · simp
    · split
      · rfl
      · split <;> simp
theorem argsU_get {ios : List Nat} : ∀ {xs : List X} {k : Nat} {us : List U}, argsU ios σ k xs = some us → us.length = xs.length ∧ ∀ (m : Nat) (u : U), us[m]? = some u → ∃ x, xs[m]? = some x ∧ argU (ios.contains (k + m)) σ x = some u
  | [], _, _, h => by cases h; exact ⟨rfl, fun m u e => by simp at e⟩
  | x :: r, k, us, h => by
    simp only [argsU] at h
    split at h
    · rename_i u us' h1 h2
      cases h
      obtain ⟨a, b⟩ := argsU_get h2
      refine ⟨by simp [a], fun m w hw => ?_⟩
      cases m with
      | zero => cases hw; exact ⟨x, rfl, h1⟩
      | succ m =>
        obtain ⟨y, e1, e2⟩ := b m w (by simpa using hw)
        exact ⟨y, by simpa using e1, by rw [show k + (m + 1) = k + 1 + m by omega]; exact e2⟩
    · cases h
theorem nrO_get : ∀ {o : VEnv} {k : Nat} {u : U}, nrO o = true → o[k]? = some (some u) → u.nr = true
  | [], k, u, _, h => by simp at h
  | none :: r, k, u, z, h => by
    cases k with
    | zero => cases h
    | succ k => exact nrO_get (o := r) z (by simpa using h)
  | some w :: r, k, u, z, h => by
    simp only [nrO, Bool.and_eq_true] at z
    cases k with
    | zero => cases h; exact z.1
    | succ k => exact nrO_get (o := r) z.2 (by simpa using h)
mutual
theorem rl_cells : ∀ (u : U) (d : D) (A : List Nat), rl g F u d A → ∀ a ∈ A, ∃ ys, g[a]? = some (.lst ys)
  | .fz p, d, _, ⟨_, e⟩, a, ha => by rw [e] at ha; cases ha
  | .own ps, d, _, ⟨r, xs, e, hx, h, eA⟩, a, ha => by rw [eA] at ha; cases List.mem_singleton.mp ha; exact ⟨xs, hx⟩
  | .tup us, _, A, ⟨ds, e, h⟩, a, ha => rls_cells us ds A h a ha
  | .nst us, _, _, ⟨r, xs, B, e, hx, h, eA⟩, a, ha => by
    rw [eA] at ha
    rcases List.mem_cons.mp ha with e | ha
    · rw [e]; exact ⟨xs, hx⟩
    · exact rls_cells us xs B h a ha
theorem rls_cells : ∀ (us : List U) (ds : List D) (A : List Nat), rls g F us ds A → ∀ a ∈ A, ∃ ys, g[a]? = some (.lst ys)
  | [], _, _, h, a, ha => by rw [h.2] at ha; cases ha
  | u :: us, _, _, ⟨d, r, B, C, e, h1, h2, eA⟩, a, ha => by
    rw [eA] at ha
    rcases List.mem_append.mp ha with ha | ha
    · exact rl_cells u d B h1 a ha
    · exact rls_cells us r C h2 a ha
end
theorem argsU_live {ios : List Nat} (h : argsU ios σ 0 xs = some us) {k i : Nat} (e : xs[k]? = some (.ln i)) : ∃ u, σ[i]? = some (some u) := by
  obtain ⟨l, get⟩ := argsU_get h
  have hk := (List.getElem?_eq_some_iff.mp e).1
  obtain ⟨x, e1, e2⟩ := get k us[k] (List.getElem?_eq_getElem (by omega))
  rw [e] at e1
  cases e1
  simp only [argU] at e2
  split at e2
  · rename_i u hu; exact ⟨u, hu⟩
  · cases e2
/-- what the callee owns -/
def ownC (ios : List Nat) (xs : List X) (Bs As : Own) : Own := fun k => if ios.contains k then (match xs[k]? with | some (.u _) => Bs k | some (.ln i) => As i | none => []) else []
def LO (ios : List Nat) (xs : List X) (As : Own) (a : Nat) : Prop := ∃ (k i : Nat), ios.contains k = false ∧ xs[k]? = some (.ln i) ∧ a ∈ As i
def FzC (ios : List Nat) (xs : List X) (F : Fz) (Bs As : Own) : Fz := fun a => F a ∨ (∃ k, ios.contains k = false ∧ a ∈ Bs k) ∨ LO ios xs As a
theorem ownC_cases {ios : List Nat} {Bs : Own} {k a : Nat} (h : a ∈ ownC ios xs Bs As k) : ios.contains k = true ∧ ((∃ u, xs[k]? = some (.u u) ∧ a ∈ Bs k) ∨ ∃ i, xs[k]? = some (.ln i) ∧ a ∈ As i) := by
  unfold ownC at h
  split at h
  · rename_i e
    refine ⟨e, ?_⟩
    split at h
    · rename_i u hu; exact .inl ⟨u, hu, h⟩
    · rename_i i hi; exact .inr ⟨i, hi, h⟩
    · cases h
  · cases h
section
variable {ios : List Nat} {Bs : Own} (iv : Iv g2 F2 As2 B) (nl : (loans xs).Nodup) (hsub : ∀ k a, a ∈ Bs k → a ∈ B) (hdj : ∀ j k a, a ∈ Bs j → a ∈ Bs k → j = k)
include iv nl hsub hdj
theorem ownC_iv (hnd : ∀ k, (Bs k).Nodup) : Iv g2 (FzC ios xs F2 Bs As2) (ownC ios xs Bs As2) [] := by
  refine ⟨fun a ha => ?_, List.nodup_nil, fun k => ?_, fun j k a hj hk => ?_, fun _ _ _ h => (by cases h), fun a ha hf => ?_, fun a ha => ?_⟩
  · rcases ha with ha | ⟨k, _, ha⟩ | ⟨k, i, _, _, ha⟩
    · exact iv.fb a ha
    · exact iv.lt a (.inl (hsub k a ha))
    · exact iv.lt a (.inr ⟨i, ha⟩)
  · unfold ownC
    split
    · split
      · exact hnd k
      · exact iv.nd _
      · exact List.nodup_nil
    · exact List.nodup_nil
  · rcases (ownC_cases hj).2 with ⟨_, _, h1⟩ | ⟨i, e1, h1⟩ <;> rcases (ownC_cases hk).2 with ⟨_, _, h2⟩ | ⟨i', e2, h2⟩
    · exact hdj j k a h1 h2
    · exact absurd (hsub j a h1) (iv.djB _ a h2)
    · exact absurd (hsub k a h2) (iv.djB _ a h1)
    · have := iv.dj _ _ a h1 h2
      subst this
      exact loans_inj nl e1 e2
  · rcases ha with ha | ⟨k, ha⟩
    · cases ha
    obtain ⟨hio, hc⟩ := ownC_cases ha
    rcases hf with hf | ⟨k', hn, hf⟩ | ⟨k', i', hn, e', hf⟩
    · rcases hc with ⟨_, _, h⟩ | ⟨i, _, h⟩
      · exact iv.nf a (.inl (hsub k a h)) hf
      · exact iv.nf a (.inr ⟨i, h⟩) hf
    · rcases hc with ⟨_, _, h⟩ | ⟨i, _, h⟩
      · rw [hdj k k' a h hf, hn] at hio; cases hio
      · exact iv.djB i a h (hsub k' a hf)
    · rcases hc with ⟨_, _, h⟩ | ⟨i, e, h⟩
      · exact iv.djB i' a hf (hsub k a h)
      · have := iv.dj _ _ a h hf
        subst this
        rw [loans_inj nl e e', hn] at hio; cases hio
  · rcases ha with ha | ⟨k, ha⟩
    · cases ha
    rcases (ownC_cases ha).2 with ⟨_, _, h⟩ | ⟨i, _, h⟩
    · exact iv.lt a (.inl (hsub k a h))
    · exact iv.lt a (.inr ⟨i, h⟩)
omit iv nl hdj in
theorem ownC_ow {a : Nat} (h : ow (ownC ios xs Bs As2) [] a) : ow As2 B a := by
  rcases h with h | ⟨k, h⟩
  · cases h
  rcases (ownC_cases h).2 with ⟨_, _, h⟩ | ⟨i, _, h⟩
  · exact .inl (hsub k a h)
  · exact .inr ⟨i, h⟩
omit iv nl hsub hdj in
theorem ownC_env (h : env Cx g2 F2 σ2 ρ As2) (hx : ∀ (k : Nat) (x : X), xs[k]? = some x → ∃ d, ds[k]? = some d ∧ rx g2 F2 ρ x d (Bs k)) (hl : ds.length = xs.length) (hu : argsU ios σ2 0 xs = some us) : env [] g2 (FzC ios xs F2 Bs As2) (us.map some) (ds.map some) (ownC ios xs Bs As2) := by
  obtain ⟨l1, get⟩ := argsU_get hu
  refine ⟨by simp [l1, hl], fun k u hk => ?_, fun _ h => by cases h⟩
  rw [List.getElem?_map, Option.map_eq_some_iff] at hk
  obtain ⟨u', hk, e⟩ := hk
  cases e
  obtain ⟨x, e1, e2⟩ := get k u hk
  obtain ⟨d, e3, e4⟩ := hx k x e1
  refine ⟨d, by rw [List.getElem?_map, e3]; rfl, ?_⟩
  rw [Nat.zero_add] at e2
  cases x with
  | u w =>
    simp only [argU, Option.some.injEq] at e2
    by_cases hio : ios.contains k = true
    · rw [if_pos hio] at e2
      subst e2
      have : ownC ios xs Bs As2 k = Bs k := by unfold ownC; rw [if_pos hio, e1]
      rw [this]
      exact rl_go (fun _ => .inl) Kp.rfl' _ _ _ Kp.rfl' e4
    · rw [if_neg hio] at e2
      subst e2
      have : ownC ios xs Bs As2 k = [] := by unfold ownC; rw [if_neg hio]
      rw [this]
      exact ⟨fr_go (fun a ha => ha.elim .inl fun ha => .inr (.inl ⟨k, by simpa using hio, ha⟩)) Kp.rfl' _ _ (rl_fr w d _ e4), rfl⟩
  | ln i =>
    obtain ⟨e4, _⟩ := e4
    simp only [argU] at e2
    split at e2
    · rename_i w hw
      obtain ⟨d', e5, e6⟩ := h.2 i w hw
      rw [e4] at e5
      cases e5
      simp only [Option.some.injEq] at e2
      by_cases hio : ios.contains k = true
      · rw [if_pos hio] at e2
        subst e2
        have : ownC ios xs Bs As2 k = As2 i := by unfold ownC; rw [if_pos hio, e1]
        rw [this]
        exact rl_go (fun _ => .inl) Kp.rfl' _ _ _ Kp.rfl' e6
      · rw [if_neg hio] at e2
        subst e2
        have : ownC ios xs Bs As2 k = [] := by unfold ownC; rw [if_neg hio]
        rw [this]
        exact ⟨fr_go (fun a ha => ha.elim .inl fun ha => .inr (.inr ⟨k, i, by simpa using hio, e1, ha⟩)) Kp.rfl' _ _ (rl_fr w d _ e6), rfl⟩
    · cases e2
/-- what the caller owns behind the call -/
def ownB (ios : List Nat) (nr : Bool) (xs : List X) (As As' : Own) : Own := fun j => match lix xs j with
  | none => As j
  | some k => if ios.contains k then As' k else if nr then As j else []
omit iv nl hsub hdj in
theorem ownB_cases {nr : Bool} {j a : Nat} (h : a ∈ ownB ios nr xs As2 As' j) : (∃ k, xs[k]? = some (.ln j) ∧ ios.contains k = true ∧ a ∈ As' k) ∨ (a ∈ As2 j ∧ (j ∉ loans xs ∨ ∃ k, xs[k]? = some (.ln j) ∧ ios.contains k = false ∧ nr = true)) := by
  unfold ownB at h
  split at h
  · rename_i e; exact .inr ⟨h, .inl (lix_none e)⟩
  · rename_i k e
    split at h
    · rename_i e2; exact .inl ⟨k, lix_some e, e2, h⟩
    · rename_i e2
      split at h
      · rename_i e3; exact .inr ⟨h, .inr ⟨k, lix_some e, by simpa using e2, e3⟩⟩
      · cases h
theorem call_back {nr : Bool} {outs : VEnv} {B' : List Nat} (he : env Cx g2 F2 σ2 ρ As2) (hx : ∀ (k : Nat) (x : X), xs[k]? = some x → ∃ d, ds[k]? = some d ∧ rx g2 F2 ρ x d (Bs k)) (hnd : ∀ k, (Bs k).Nodup) (ho : env [] g' F' outs (ds.map some) As') (iv' : Iv g' F' As' B') (sp : Sp g2 (FzC ios xs F2 Bs As2) (ow (ownC ios xs Bs As2) []) g' F' (ow As' B')) (hnr : nr = true → nrO outs = true) (hlive : ∀ (k i : Nat), xs[k]? = some (.ln i) → ∃ u, σ2[i]? = some (some u)) :
    ∃ F3 : Fz, env Cx g' F3 (back ios nr outs 0 xs σ2) ρ (ownB ios nr xs As2 As') ∧ Iv g' F3 (ownB ios nr xs As2 As') B' ∧ Sp g2 F2 (ow As2 B) g' F3 (ow (ownB ios nr xs As2 As') B') ∧ (nr = false → ∀ a, F' a → F3 a) ∧ (∀ a, F' a → ¬ LO ios xs As2 a → F3 a) ∧ (∀ a, LO ios xs As2 a → ∃ ys, g'[a]? = some (.lst ys)) := by
  have ivc := ownC_iv (ios := ios) iv nl hsub hdj hnd
  have hF2 : ∀ a, F2 a → F' a ∧ (nr = true → ¬ LO ios xs As2 a) := fun a ha => ⟨sp.mono a (.inl ha), fun _ ⟨k, i, _, _, hi⟩ => iv.nf a (.inr ⟨i, hi⟩) ha⟩
  have kpF : Kp g2 g' (FzC ios xs F2 Bs As2) := Kp.of_eq fun a ha hl => sp.keep a hl fun hw => ivc.nf a hw ha
  -- what a slot that is not handed over owns is not the callee's
  have old : ∀ (j a : Nat), a ∈ As2 j → (∀ k : Nat, xs[k]? = some (.ln j) → ios.contains k = false) → ¬ ow (ownC ios xs Bs As2) [] a := by
    intro j a ha hj hw
    rcases hw with hw | ⟨k, hw⟩
    · cases hw
    obtain ⟨hio, hc⟩ := ownC_cases hw
    rcases hc with ⟨_, _, h⟩ | ⟨i, e, h⟩
    · exact iv.djB j a ha (hsub k a h)
    · have := iv.dj _ _ a ha h
      subst this
      rw [hj k e] at hio; cases hio
  have nolo : ∀ (j : Nat), (j ∉ loans xs ∨ ∃ k, xs[k]? = some (.ln j) ∧ ios.contains k = false ∧ nr = true) → ∀ k : Nat, xs[k]? = some (.ln j) → ios.contains k = false := by
    intro j hj k e
    rcases hj with hj | ⟨k', e', h', _⟩
    · exact absurd (loans_mem.mpr ⟨k, e⟩) hj
    · rw [loans_inj nl e e']; exact h'
  refine ⟨fun a => F' a ∧ (nr = true → ¬ LO ios xs As2 a), ⟨by rw [back_len]; exact he.1, fun j w hw => ?_, fun q hq => pinR_go hF2 (kpF.mono fun _ => .inl) (he.pins q hq)⟩, ⟨fun a ha => iv'.fb a ha.1, iv'.ndB, fun j => ?_, fun i j a hi hj => ?_, fun j a ha hb => ?_, fun a ha hf => ?_, fun a ha => ?_⟩, ⟨sp.len, fun a hl hw => sp.keep a hl fun z => hw (ownC_ow hsub z), fun a ha => hF2 a ha, fun a ha => ?_, fun a ha => ?_⟩, fun e a ha => ⟨ha, fun z => by rw [e] at z; cases z⟩, fun a ha hl => ⟨ha, fun _ => hl⟩, fun a ⟨k, i, hn, e, hi⟩ => ?_⟩
  · cases hlx : lix xs j with
    | none =>
      have hnl := lix_none hlx
      rw [back_no hnl] at hw
      obtain ⟨d, hd, hr⟩ := he.2 j w hw
      refine ⟨d, hd, ?_⟩
      simp only [ownB, hlx]
      exact rl_go hF2 (kpF.mono fun _ => .inl) w d _ (Kp.of_eq fun a ha hl => sp.keep a hl (old j a ha (nolo j (.inl hnl)))) hr
    | some k =>
      have hk := lix_some hlx
      rw [back_at nl hk, Nat.zero_add] at hw
      obtain ⟨d, hdk, hd, _⟩ := hx k _ hk
      simp only [ownB, hlx]
      unfold bk1 at hw
      by_cases hio : ios.contains k = true
      · rw [if_pos hio] at hw ⊢
        simp only [Option.map_eq_some_iff] at hw
        obtain ⟨_, _, hw⟩ := hw
        have hw : outs[k]? = some (some w) := by
          rw [List.getD_eq_getElem?_getD] at hw
          cases ho : outs[k]? with
          | none => rw [ho] at hw; cases hw
          | some z => rw [ho] at hw; rw [show z = some w from hw]
        obtain ⟨d', e1, e2⟩ := ho.2 k w hw
        rw [List.getElem?_map, hdk] at e1
        cases e1
        refine ⟨d, hd, ?_⟩
        cases hn : nr with
        | false => exact rl_go (fun a ha => ⟨ha, fun z => by cases z⟩) Kp.rfl' w d _ Kp.rfl' e2
        | true => exact rl_nr w d _ (nrO_get (hnr hn) hw) Kp.rfl' e2
      · rw [if_neg hio] at hw ⊢
        have hio : ios.contains k = false := by simpa using hio
        cases hn : nr with
        | true =>
          rw [hn, if_pos rfl] at hw
          obtain ⟨d', hd', hr⟩ := he.2 j w hw
          refine ⟨d', hd', ?_⟩
          rw [if_pos rfl]
          exact rl_go (fun a ha => ⟨(hF2 a ha).1, fun _ => (hF2 a ha).2 hn⟩) (kpF.mono fun _ => .inl) w d' _ (Kp.of_eq fun a ha hl => sp.keep a hl (old j a ha fun k' e => by rw [loans_inj nl e hk]; exact hio)) hr
        | false =>
          rw [hn, if_neg (by simp)] at hw
          split at hw
          · rename_i w0 hw0
            cases hw
            obtain ⟨d', hd', hr⟩ := he.2 j w0 hw0
            refine ⟨d', hd', ?_⟩
            rw [if_neg (by simp)]
            refine ⟨?_, rfl⟩
            have sub : ∀ a, F2 a ∨ a ∈ As2 j → FzC ios xs F2 Bs As2 a := fun a ha => ha.elim .inl fun ha => .inr (.inr ⟨k, j, hio, hk, ha⟩)
            exact fr_go (fun a ha => ⟨sp.mono a (sub a ha), fun z => by cases z⟩) (kpF.mono sub) _ _ (rl_fr w0 d' _ hr)
          · rename_i hne
            exact absurd hw (hne w)
  · unfold ownB
    split
    · exact iv.nd j
    · split
      · exact iv'.nd _
      · split
        · exact iv.nd j
        · exact List.nodup_nil
  · have mix : ∀ (i : Nat) (k : Nat), a ∈ As2 i → (i ∉ loans xs ∨ ∃ k, xs[k]? = some (.ln i) ∧ ios.contains k = false ∧ nr = true) → a ∈ As' k → False := fun i k h1 h2 h3 => by
      rcases sp.ow a (.inr ⟨k, h3⟩) with z | z
      · exact old i a h1 (nolo i h2) z
      · have := iv.lt a (.inr ⟨i, h1⟩); omega
    rcases ownB_cases hi with ⟨k, e1, _, h1⟩ | ⟨h1, z1⟩ <;> rcases ownB_cases hj with ⟨k', e2, _, h2⟩ | ⟨h2, z2⟩
    · have := iv'.dj k k' a h1 h2
      subst this
      rw [e1] at e2; cases e2; rfl
    · exact (mix _ _ h2 z2 h1).elim
    · exact (mix _ _ h1 z1 h2).elim
    · exact iv.dj _ _ a h1 h2
  · rcases ownB_cases ha with ⟨k, e1, _, h1⟩ | ⟨h1, z1⟩
    · exact iv'.djB k a h1 hb
    · rcases sp.ow a (.inl hb) with z | z
      · exact old j a h1 (nolo j z1) z
      · have := iv.lt a (.inr ⟨j, h1⟩); omega
  · rcases ha with ha | ⟨j, ha⟩
    · exact iv'.nf a (.inl ha) hf.1
    rcases ownB_cases ha with ⟨k, e1, _, h1⟩ | ⟨h1, z1⟩
    · exact iv'.nf a (.inr ⟨k, h1⟩) hf.1
    · rcases sp.back a hf.1 with z | z | z
      · rcases z with z | ⟨k, _, z⟩ | ⟨k, i, hn, e, z⟩
        · exact iv.nf a (.inr ⟨j, h1⟩) z
        · exact iv.djB j a h1 (hsub k a z)
        · have := iv.dj _ _ a z h1
          subst this
          rcases z1 with z1 | ⟨_, _, _, z1⟩
          · exact z1 (loans_mem.mpr ⟨k, e⟩)
          · exact hf.2 z1 ⟨k, i, hn, e, z⟩
      · exact old j a h1 (nolo j z1) z
      · have := iv.lt a (.inr ⟨j, h1⟩); omega
  · rcases ha with ha | ⟨j, ha⟩
    · exact iv'.lt a (.inl ha)
    rcases ownB_cases ha with ⟨k, e1, _, h1⟩ | ⟨h1, z1⟩
    · exact iv'.lt a (.inr ⟨k, h1⟩)
    · exact Nat.lt_of_lt_of_le (iv.lt a (.inr ⟨j, h1⟩)) sp.len
  · rcases sp.back a ha.1 with z | z | z
    · rcases z with z | ⟨k, _, z⟩ | ⟨k, i, hn, e, z⟩
      · exact .inl z
      · exact .inr (.inl (.inl (hsub k a z)))
      · exact .inr (.inl (.inr ⟨i, z⟩))
    · exact .inr (.inl (ownC_ow hsub z))
    · exact .inr (.inr z)
  · have fromC : (a ∈ B' ∨ ∃ k, a ∈ As' k) → ow As2 B a ∨ g2.length ≤ a := fun h => (sp.ow a h).imp (ownC_ow hsub) id
    rcases ha with ha | ⟨j, ha⟩
    · exact fromC (.inl ha)
    rcases ownB_cases ha with ⟨k, e1, _, h1⟩ | ⟨h1, z1⟩
    · exact fromC (.inr ⟨k, h1⟩)
    · exact .inl (.inr ⟨j, h1⟩)
  · obtain ⟨u, hu⟩ := hlive k i e
    obtain ⟨d, _, hr⟩ := he.2 i u hu
    obtain ⟨ys, hys⟩ := rl_cells u d _ hr a hi
    refine ⟨ys, ?_⟩
    rw [sp.keep a (List.getElem?_eq_some_iff.mp hys).1 (old i a hi fun k' e' => by rw [loans_inj nl e' e]; exact hn)]
    exact hys
end
theorem xr_nr {x : VX} {e : Exc} (h : xr g' F' x e) (hn : nrX x = true) (hr : ∀ r, e.at_ = some r → F' r → F1 r) : xr g' F1 x e := by
  obtain ⟨h1, h2⟩ := h
  refine ⟨h1, ?_⟩
  unfold nrX at hn
  split at h2
  · trivial
  · rename_i fs r hfs hat
    rw [hfs] at hn
    obtain ⟨hf, ds, h3, h4, h5⟩ := h2
    exact ⟨hr r hat hf, ds, h3, h4, frs_flat _ _ hn h5⟩
  · exact h2
def E.call (f : Fn) (as : Ar Cx) : E Cx := ⟨mCall f.m as.m, callV f.v f.ios as.v, fun ρ σ g F As h iv => (as.ok ρ σ g F As h iv).bind fun xs ds g2 F2 As2 σ2 B h1 k => by
  by_cases nl : (loans xs).Nodup
  · rw [if_pos nl]
    cases hu : argsU f.ios σ2 0 xs with
    | none => exact SimV.bad
    | some us =>
      dsimp only
      obtain ⟨Bs, hx, hsub, hB, _, hl⟩ := rxs_split h1
      obtain ⟨hnd, hdj⟩ := hB k.iv.ndB
      have hf := f.ok ds us g2 (FzC f.ios xs F2 Bs As2) (ownC f.ios xs Bs As2) (ownC_env k.env hx hl hu) (ownC_iv k.iv nl hsub hdj hnd)
      cases hv : f.v us with
      | bad => exact SimV.bad
      | ok u outs =>
        rw [hv] at hf
        obtain ⟨d, g', F', As', B', e1, e2, e3, e4, e5⟩ := hf
        dsimp only
        rw [e1]
        obtain ⟨F3, a1, a2, a3, a4, a5⟩ := call_back (nr := u.nr && nrO outs) k.iv nl hsub hdj k.env hx hnd e3 e4 e5 (fun z => by simp at z; exact z.2) (fun _ _ => argsU_live hu)
        refine SimV.ok ?_ ⟨a1, a2, k.sp.trans a3⟩
        cases hn : (u.nr && nrO outs) with
        | false => exact rl_go (a4 hn) Kp.rfl' u d _ Kp.rfl' e2
        | true => simp at hn; exact rl_nr u d _ hn.1 Kp.rfl' e2
      | exc x outs =>
        rw [hv] at hf
        obtain ⟨e, g', F', As', e1, e2, e3, e4, e5⟩ := hf
        dsimp only
        rw [e1]
        obtain ⟨F3, a1, a2, a3, a4, a5, a6⟩ := call_back (nr := nrX x && nrO outs) k.iv nl hsub hdj k.env hx hnd e3 e4 e5 (fun z => by simp at z; exact z.2) (fun _ _ => argsU_live hu)
        refine ⟨e, g', F3, _, rfl, ?_, a1, a2, k.sp.trans a3⟩
        cases hn : (nrX x && nrO outs) with
        | false => exact xr_go (a4 hn) Kp.rfl' (fun _ _ _ => rfl) e2
        | true =>
          simp at hn
          refine xr_nr e2 hn.1 fun r hr hf => a5 r hf fun hlo => ?_
          obtain ⟨ys, hys⟩ := a6 r hlo
          obtain ⟨_, h2⟩ := e2
          rw [hr] at h2
          split at h2
          · rename_i z; cases z
          · rename_i z
            cases z
            obtain ⟨_, ds, h3, _⟩ := h2
            rw [hys] at h3; cases h3
          · exact h2
  · rw [if_neg nl]; exact SimV.bad⟩
end
end Py
end

section
set_option autoImplicit false
set_option linter.all false
/-! Statements, defs. -/
namespace Py
inductive VS where
  | next (σ : VEnv) | ret (u : U) (σ : VEnv) | brk (σ : VEnv) | cont (σ : VEnv) | exc (x : VX) (σ : VEnv) | bad
structure Oks (Cx : Ctx) (g : G) (F : Fz) (As : Own) (ρ : Env) (g' : G) (F' : Fz) (σ' : VEnv) (As' : Own) (ρ' : Env) (B : List Nat) (asg : List Nat) : Prop where
  env : env Cx g' F' σ' ρ' As'
  iv : Iv g' F' As' B
  sp : Sp g F (ow As []) g' F' (ow As' B)
  ag : ∀ j, j ∉ asg → ρ'[j]? = ρ[j]?
  ln : ρ'.length = ρ.length
def SimS1 (Cx : Ctx) (asg : List Nat) (ρ : Env) (g : G) (F : Fz) (As : Own) (r : SR) (v : VS) : Prop := match v with
  | .next σ' => ∃ ρ' g' F' As', r = .next ρ' g' ∧ Oks Cx g F As ρ g' F' σ' As' ρ' [] asg
  | .brk σ' => ∃ ρ' g' F' As', r = .brk ρ' g' ∧ Oks Cx g F As ρ g' F' σ' As' ρ' [] asg
  | .cont σ' => ∃ ρ' g' F' As', r = .cont ρ' g' ∧ Oks Cx g F As ρ g' F' σ' As' ρ' [] asg
  | .ret u σ' => ∃ d ρ' g' F' As' B, r = .ret d g' ∧ rl g' F' u d B ∧ Oks Cx g F As ρ g' F' σ' As' ρ' B asg
  | .exc x σ' => ∃ e ρ' g' F' As', r = .exc e ρ' g' ∧ xr g' F' x e ∧ Oks Cx g F As ρ g' F' σ' As' ρ' [] asg
  | .bad => True
def SimS (Cx : Ctx) (s : S) (v : VEnv → VS) (asg : List Nat) : Prop := ∀ (ρ : Env) (σ : VEnv) (g : G) (F : Fz) (As : Own), env Cx g F σ ρ As → Iv g F As [] → SimS1 Cx asg ρ g F As (s ρ g) (v σ)
structure St (Cx : Ctx) where
  m : S
  v : VEnv → VS
  asg : List Nat
  ok : SimS Cx m v asg
def onV {α : Type} (r : VR α) (k : α → VEnv → VS) : VS := match r with | .ok a σ => k a σ | .exc x σ => .exc x σ | .bad => .bad
@[simp] theorem onV_ok {α : Type} (a : α) (σ : VEnv) (k : α → VEnv → VS) : onV (.ok a σ) k = k a σ := rfl
@[simp] theorem onV_exc {α : Type} (x : VX) (σ : VEnv) (k : α → VEnv → VS) : onV (.exc x σ) k = .exc x σ := rfl
@[simp] theorem onV_bad {α : Type} (k : α → VEnv → VS) : onV .bad k = .bad := rfl
section
variable {Cx : Ctx} {g g1 g2 g' : G} {F F1 F2 F' : Fz} {As As1 As2 As' : Own} {A B C : List Nat} {σ σ1 σ2 σ' : VEnv} {ρ ρ1 ρ' ρ2 : Env} {asg asg2 : List Nat} {r : SR} {v : VS}
theorem Oks.refl (h : Py.env Cx g F σ ρ As) (iv : Iv g F As []) : Oks Cx g F As ρ g F σ As ρ [] asg := ⟨h, iv, Sp.refl _ _ _, fun _ _ => rfl, rfl⟩
theorem Oks.of (k : Oke Cx g F As ρ g' F' σ' As' B) : Oks Cx g F As ρ g' F' σ' As' ρ B asg := ⟨k.env, k.iv, k.sp, fun _ _ => rfl, rfl⟩
theorem Oks.trans (x : Oks Cx g F As ρ g1 F1 σ1 As1 ρ1 [] asg) (y : Oks Cx g1 F1 As1 ρ1 g2 F2 σ2 As2 ρ2 B asg2) : Oks Cx g F As ρ g2 F2 σ2 As2 ρ2 B (asg ++ asg2) := ⟨y.env, y.iv, x.sp.trans y.sp, fun j hj => (y.ag j fun z => hj (by simp [z])).trans (x.ag j fun z => hj (by simp [z])), y.ln.trans x.ln⟩
theorem Oks.wk (x : Oks Cx g F As ρ g1 F1 σ1 As1 ρ1 B asg) (h : ∀ i, i ∈ asg → i ∈ asg2) : Oks Cx g F As ρ g1 F1 σ1 As1 ρ1 B asg2 := ⟨x.env, x.iv, x.sp, fun j hj => x.ag j fun z => hj (h j z), x.ln⟩
theorem SimS1.wk (h : SimS1 Cx asg ρ g F As r v) (hs : ∀ i, i ∈ asg → i ∈ asg2) : SimS1 Cx asg2 ρ g F As r v := by
  cases v with
  | next σ => obtain ⟨a, b, c, d, e, k⟩ := h; exact ⟨a, b, c, d, e, k.wk hs⟩
  | brk σ => obtain ⟨a, b, c, d, e, k⟩ := h; exact ⟨a, b, c, d, e, k.wk hs⟩
  | cont σ => obtain ⟨a, b, c, d, e, k⟩ := h; exact ⟨a, b, c, d, e, k.wk hs⟩
  | ret u σ => obtain ⟨a, b, c, d, e, f, e1, e2, k⟩ := h; exact ⟨a, b, c, d, e, f, e1, e2, k.wk hs⟩
  | exc x σ => obtain ⟨a, b, c, d, e, e1, e2, k⟩ := h; exact ⟨a, b, c, d, e, e1, e2, k.wk hs⟩
  | bad => trivial
/-- a statement behind a step -/
theorem SimS1.then (x : Oks Cx g F As ρ g1 F1 σ1 As1 ρ1 [] asg) (h : SimS1 Cx asg2 ρ1 g1 F1 As1 r v) : SimS1 Cx (asg ++ asg2) ρ g F As r v := by
  cases v with
  | next σ => obtain ⟨a, b, c, d, e, k⟩ := h; exact ⟨a, b, c, d, e, x.trans k⟩
  | brk σ => obtain ⟨a, b, c, d, e, k⟩ := h; exact ⟨a, b, c, d, e, x.trans k⟩
  | cont σ => obtain ⟨a, b, c, d, e, k⟩ := h; exact ⟨a, b, c, d, e, x.trans k⟩
  | ret u σ => obtain ⟨a, b, c, d, e, f, e1, e2, k⟩ := h; exact ⟨a, b, c, d, e, f, e1, e2, x.trans k⟩
  | exc x' σ => obtain ⟨a, b, c, d, e, e1, e2, k⟩ := h; exact ⟨a, b, c, d, e, e1, e2, x.trans k⟩
  | bad => trivial
/-- an expression, then what follows -/
theorem SimS1.on {β γ : Type} {Rel : G → Fz → β → γ → List Nat → Prop} {rg : R γ} {rv : VR β} {kg : γ → G → SR} {kv : β → VEnv → VS} (h : SimV Cx Rel g F As ρ rg rv) (q : ∀ b c g1 F1 As1 σ1 B1, Rel g1 F1 b c B1 → Oke Cx g F As ρ g1 F1 σ1 As1 B1 → SimS1 Cx asg ρ g F As (kg c g1) (kv b σ1)) : SimS1 Cx asg ρ g F As (onR rg ρ kg) (onV rv kv) := by
  cases rv with
  | ok b σ1 =>
    obtain ⟨c, g1, F1, As1, B1, e, h1, h2⟩ := h
    rw [e]
    exact q b c g1 F1 As1 σ1 B1 h1 h2
  | exc x σ1 =>
    obtain ⟨e, g1, F1, As1, h0, h1, h2⟩ := h
    rw [h0]
    exact ⟨e, ρ, g1, F1, As1, rfl, h1, Oks.of h2⟩
  | bad => trivial
def seqV (a b : VEnv → VS) : VEnv → VS := fun σ => match a σ with | .next σ1 => b σ1 | r => r
def St.seq (a b : St Cx) : St Cx := ⟨sSeq a.m b.m, seqV a.v b.v, a.asg ++ b.asg, fun ρ σ g F As h iv => by
  have ha := a.ok ρ σ g F As h iv
  unfold seqV sSeq
  cases hv : a.v σ with
  | next σ1 =>
    rw [hv] at ha
    obtain ⟨ρ1, g1, F1, As1, e, k⟩ := ha
    rw [e]
    exact SimS1.then k (b.ok ρ1 σ1 g1 F1 As1 k.env k.iv)
  | bad => trivial
  | brk σ1 => rw [hv] at ha; obtain ⟨_, _, _, _, e, k⟩ := ha; rw [e]; exact ⟨_, _, _, _, rfl, k.wk fun _ => List.mem_append_left _⟩
  | cont σ1 => rw [hv] at ha; obtain ⟨_, _, _, _, e, k⟩ := ha; rw [e]; exact ⟨_, _, _, _, rfl, k.wk fun _ => List.mem_append_left _⟩
  | ret u σ1 => rw [hv] at ha; obtain ⟨_, _, _, _, _, _, e, e2, k⟩ := ha; rw [e]; exact ⟨_, _, _, _, _, _, rfl, e2, k.wk fun _ => List.mem_append_left _⟩
  | exc x σ1 => rw [hv] at ha; obtain ⟨_, _, _, _, _, e, e2, k⟩ := ha; rw [e]; exact ⟨_, _, _, _, _, rfl, e2, k.wk fun _ => List.mem_append_left _⟩⟩
def St.nil : St Cx := ⟨sNil, .next, [], fun ρ σ g F As h iv => ⟨ρ, g, F, As, rfl, Oks.refl h iv⟩⟩
def St.brk : St Cx := ⟨sBreak, .brk, [], fun ρ σ g F As h iv => ⟨ρ, g, F, As, rfl, Oks.refl h iv⟩⟩
def St.cont : St Cx := ⟨sCont, .cont, [], fun ρ σ g F As h iv => ⟨ρ, g, F, As, rfl, Oks.refl h iv⟩⟩
def exprV (e : VM) : VEnv → VS := fun σ => onV (e σ) fun _ σ1 => .next σ1
def St.expr (e : E Cx) : St Cx := ⟨sExpr e.m, exprV e.v, [], fun ρ σ g F As h iv => SimS1.on (e.ok ρ σ g F As h iv) fun x d g1 F1 As1 σ1 B1 h1 k1 => ⟨ρ, g1, F1, As1, rfl, Oks.of k1.drop⟩⟩
def retV (e : VM) : VEnv → VS := fun σ => onV (e σ) fun x σ1 => match xU x with | some u => .ret u σ1 | none => .bad
def St.ret (e : E Cx) : St Cx := ⟨sRet e.m, retV e.v, [], fun ρ σ g F As h iv => SimS1.on (e.ok ρ σ g F As h iv) fun x d g1 F1 As1 σ1 B1 h1 k1 => by
  cases x with
  | ln _ => trivial
  | u u => exact ⟨d, ρ, g1, F1, As1, B1, rfl, h1, Oks.of k1⟩⟩
def St.retN : St Cx := ⟨sRetN, .ret (.fz .non), [], fun ρ σ g F As h iv => ⟨.non, ρ, g, F, As, [], rfl, ⟨rfl, rfl⟩, Oks.refl h iv⟩⟩
def ifV (t : VT) (a b : VEnv → VS) : VEnv → VS := fun σ => onV (t σ) fun c σ1 => if c then a σ1 else b σ1
def St.ite (t : Te Cx) (a b : St Cx) : St Cx := ⟨sIf t.m a.m b.m, ifV t.v a.v b.v, a.asg ++ b.asg, fun ρ σ g F As h iv => SimS1.on (t.ok ρ σ g F As h iv) fun c c' g1 F1 As1 σ1 B1 h1 k1 => by
  obtain ⟨rfl, rfl⟩ := h1
  have k0 : Oks Cx g F As ρ g1 F1 σ1 As1 ρ [] [] := Oks.of k1
  cases c with
  | false => exact (SimS1.then k0 (b.ok ρ σ1 g1 F1 As1 k1.env k1.iv)).wk fun _ h => List.mem_append_right _ h
  | true => exact (SimS1.then k0 (a.ok ρ σ1 g1 F1 As1 k1.env k1.iv)).wk fun _ h => List.mem_append_left _ h⟩
/-! assignment -/
def asgV (e : VM) (t : U → VEnv → Option VEnv) : VEnv → VS := fun σ => onV (e σ) fun x σ1 => match xU x with | some u => (match t u σ1 with | some σ2 => .next σ2 | none => .bad) | none => .bad
/-- a target, in any context whose slots it leaves alone -/
theorem tgt_ok (t : Tgt) (hp : ∀ q, q ∈ Cx → q.i ∉ t.own) {u : U} {d : D} (hr : rl g F u d B) (h : env Cx g F σ ρ As) (iv : Iv g F As B) (e : t.v u σ = some σ') :
    ∃ ρ' As', t.m d ρ = some ρ' ∧ env Cx g F σ' ρ' As' ∧ Iv g F As' [] ∧ (∀ a, ow As' [] a → ow As B a) ∧ (∀ j, j ∉ t.own → ρ'[j]? = ρ[j]? ∧ As' j = As j) ∧ ρ'.length = ρ.length := by
  obtain ⟨ρ', As', a1, a2, a3, a4, a5, a6⟩ := t.ok d u g F B [] As ρ σ σ' hr (env_nil h) (by rw [List.append_nil]; exact iv) e
  rw [List.append_nil] at a4
  exact ⟨ρ', As', a1, ⟨a2.1, a2.2, fun q hq => pinR_rho (a5 q.i (hp q hq)).1 (h.pins q hq)⟩, a3, a4, a5, a6⟩
def St.asg' (e : E Cx) (t : Tgt) (hp : ∀ q, q ∈ Cx → q.i ∉ t.own) : St Cx := ⟨sAsg e.m t.m, asgV e.v t.v, t.own, fun ρ σ g F As h iv => SimS1.on (e.ok ρ σ g F As h iv) fun x d g1 F1 As1 σ1 B1 h1 k1 => by
  cases x with
  | ln _ => trivial
  | u u =>
    dsimp only [xU]
    cases ht : t.v u σ1 with
    | none => trivial
    | some σ2 =>
      obtain ⟨ρ2, As2, a1, a2, a3, a4, a5, a6⟩ := tgt_ok t hp h1 k1.env k1.iv ht
      dsimp only
      rw [a1]
      exact ⟨ρ2, g1, F1, As2, rfl, a2, a3, k1.sp.less a4, fun j hj => (a5 j hj).1, a6⟩⟩
/-- o[i] = e, o in slot k -/
def setU : U → Int → U → Option U
  | .own ps, i, .fz p => (ix ps.length i).map fun j => .own (ps.set j p)
  | .own ps, i, u => (ix ps.length i).map fun j => .nst ((ps.map .fz).set j u)
  | .nst us, i, u => (ix us.length i).map fun j => .nst (us.set j u)
  | _, _, _ => none
theorem rls_set : ∀ {us : List U} {ds : List D} {A B : List Nat} {u : U} {d : D} (j : Nat), rls g F us ds A → rl g F u d B → ∃ A', rls g F (us.set j u) (ds.set j d) A' ∧ (∀ a, a ∈ A' → a ∈ A ∨ a ∈ B) ∧ ((A ++ B).Nodup → A'.Nodup)
  | [], _, A, B, u, d, j, h, _ => by obtain ⟨rfl, rfl⟩ := h; exact ⟨[], ⟨by simp, rfl⟩, fun _ h => (by cases h), fun _ => List.nodup_nil⟩
  | w :: us, _, A, B, u, d, 0, ⟨d', r, C, E, e, h1, h2, eA⟩, h' => by
    rw [e, eA]
    refine ⟨B ++ E, ⟨d, r, B, E, rfl, h', h2, rfl⟩, fun a ha => ?_, fun nd => ?_⟩
    · rcases List.mem_append.mp ha with ha | ha
      · exact .inr ha
      · exact .inl (by simp [ha])
    · obtain ⟨n1, n2, n3⟩ := List.nodup_append.mp nd
      exact List.nodup_append.mpr ⟨n2, (List.nodup_append.mp n1).2.1, fun a ha b hb e => n3 b (by simp [hb]) a ha e.symm⟩
  | w :: us, _, A, B, u, d, j + 1, ⟨d', r, C, E, e, h1, h2, eA⟩, h' => by
    rw [e, eA]
    obtain ⟨E', a, b, c⟩ := rls_set j h2 h'
    refine ⟨C ++ E', ⟨d', _, C, E', rfl, h1, a, rfl⟩, fun x hx => ?_, fun nd => ?_⟩
    · rcases List.mem_append.mp hx with hx | hx
      · exact .inl (by simp [hx])
      · exact (b x hx).imp (fun h => by simp [h]) id
    · rw [List.append_assoc] at nd
      obtain ⟨n1, n2, n3⟩ := List.nodup_append.mp nd
      refine List.nodup_append.mpr ⟨n1, c n2, fun a ha b' hb e => n3 a ha b' ?_ e⟩
      exact (b b' hb).elim (fun h => by simp [h]) fun h => by simp [h]
theorem set_nst {us : List U} {u : U} {d : D} {r : Nat} {i : Int} {j : Nat} (h1 : rl g F (.nst us) (.ref r) A) (h2 : rl g F u d B) (nd : (A ++ B).Nodup) (nf : ¬ F r) (hj : ix us.length i = some j) : r ∈ A ∧ ∃ xs A', g[r]? = some (.lst xs) ∧ ix xs.length i = some j ∧ rl (g.set r (.lst (xs.set j d))) F (.nst (us.set j u)) (.ref r) A' ∧ (∀ a, a ∈ A' → a ∈ A ∨ a ∈ B) ∧ A'.Nodup := by
  obtain ⟨r', xs, C, e, hx, h, rfl⟩ := h1
  cases e
  have hn := List.nodup_cons.mp (show (r :: (C ++ B)).Nodup from nd)
  obtain ⟨C', a, b, c⟩ := rls_set j h h2
  have hr : r ∉ C' := fun z => hn.1 ((b r z).elim (fun h => by simp [h]) fun h => by simp [h])
  exact ⟨by simp, xs, r :: C', hx, by rw [rls_len h]; exact hj, ⟨r, _, C', rfl, List.getElem?_set_self (List.getElem?_eq_some_iff.mp hx).1, rls_go (fun _ => id) (kp_set nf) _ _ _ (kp_set hr) a, rfl⟩, fun x hx => by
    rcases List.mem_cons.mp hx with e | hx
    · exact .inl (by simp [e])
    · exact (b x hx).imp (fun h => by simp [h]) id, List.nodup_cons.mpr ⟨hr, c hn.2⟩⟩
theorem setU_rl {u1 y u2 : U} {d : D} {r : Nat} {i : Int} (h1 : rl g F u1 (.ref r) A) (h2 : rl g F y d B) (nd : (A ++ B).Nodup) (nf : ¬ F r) (e : setU u1 i y = some u2) : r ∈ A ∧ ∃ xs j A', g[r]? = some (.lst xs) ∧ ix xs.length i = some j ∧ rl (g.set r (.lst (xs.set j d))) F u2 (.ref r) A' ∧ (∀ a, a ∈ A' → a ∈ A ∨ a ∈ B) ∧ A'.Nodup := by
  unfold setU at e
  split at e
  · rename_i ps i p
    rw [Option.map_eq_some_iff] at e
    obtain ⟨j, hj, rfl⟩ := e
    obtain ⟨r', xs, e, hx, h, rfl⟩ := h1
    cases e
    obtain ⟨h2, rfl⟩ := h2
    exact ⟨by simp, xs, j, [r], hx, by rw [frs_len h]; exact hj, ⟨r, _, rfl, List.getElem?_set_self (List.getElem?_eq_some_iff.mp hx).1, frs_go (fun _ => id) (kp_set nf) _ _ (frs_set j h h2), rfl⟩, fun a ha => .inl ha, by simp⟩
  · rename_i ps i u _
    rw [Option.map_eq_some_iff] at e
    obtain ⟨j, hj, rfl⟩ := e
    obtain ⟨a, xs, A', b⟩ := set_nst (own_nst h1) h2 nd nf (by rw [List.length_map]; exact hj)
    exact ⟨a, xs, j, A', b⟩
  · rename_i us i u
    rw [Option.map_eq_some_iff] at e
    obtain ⟨j, hj, rfl⟩ := e
    obtain ⟨a, xs, A', b⟩ := set_nst h1 h2 nd nf hj
    exact ⟨a, xs, j, A', b⟩
  · cases e
theorem setU_isL {u1 y u2 : U} {i : Int} (e : setU u1 i y = some u2) : isL u1 = true := by
  cases u1 <;> first | rfl | (cases y <;> cases e)
def setIV (k : Nat) (i e : VM) : VEnv → VS := fun σ => onV (e σ) fun x σ1 => match xU x, σ1[k]? with
  | some y, some (some _) => onV (i σ1) fun z σ2 => (match xI z, σ2[k]? with
    | some j, some (some u1) => (match setU u1 j y with | some u2 => .next (σ2.set k (some u2)) | none => .bad)
    | _, _ => .bad)
  | _, _ => .bad
def St.setI (k : Nat) (i e : E Cx) : St Cx := ⟨sSetI (mVar k) i.m e.m, setIV k i.v e.v, [], fun ρ σ g F As h iv => by
  refine SimS1.on (e.ok ρ σ g F As h iv) fun x d g1 F1 As1 σ1 B1 h1 k1 => ?_
  cases x with
  | ln _ => trivial
  | u y =>
    dsimp only [xU]
    cases hs : σ1[k]? with
    | none => trivial
    | some o =>
      cases o with
      | none => trivial
      | some u0 =>
        dsimp only
        obtain ⟨d0, hd0, _⟩ := k1.env.2 k u0 hs
        rw [var_ok hd0]
        show SimS1 Cx [] ρ g F As (onR (i.m ρ g1) ρ _) _
        refine SimS1.on ((i.ok ρ σ1 g1 F1 As1 k1.env k1.iv.none).after iv k1) fun z z' g2 F2 As2 σ2 B h2 k2 => ?_
        obtain ⟨B2, rfl, h3, a2, a3, a4⟩ := h2
        cases hz : xI z with
        | none => trivial
        | some j =>
          obtain ⟨rfl, rfl⟩ := xI_rx hz h3
          rw [List.append_nil] at k2
          cases hs2 : σ2[k]? with
          | none => trivial
          | some o =>
            cases o with
            | none => trivial
            | some u1 =>
              dsimp only
              cases hu : setU u1 j y with
              | none => trivial
              | some u2 =>
                dsimp only
                obtain ⟨d1, hd1, hr1⟩ := k2.env.2 k u1 hs2
                rw [hd0] at hd1
                cases hd1
                obtain ⟨r, _, rfl, _, hrm⟩ := isL_ref hr1 (setU_isL hu)
                have hy := rl_go a2 a3 y d B1 a4 h1
                obtain ⟨hm, xs, j', A', hx, hix, hnew, hsub, hnd⟩ := setU_rl hr1 hy (k2.iv.nd2 k) (k2.iv.nf r (.inr ⟨k, hrm⟩)) hu
                rw [mutOf_lst hx]
                simp only [x_asI]
                rw [hix]
                obtain ⟨w1, w2, w3⟩ := wr_slot k2.env k2.iv hd0 hm hnew hsub hnd
                exact ⟨ρ, _, F2, _, rfl, Oks.of ⟨w1, w2, k2.sp.trans w3⟩⟩⟩
/-! loops -/
def forV (t : U → VEnv → Option VEnv) (b : VEnv → VS) : List P → VEnv → VS
  | [], σ => .next σ
  | p :: ps, σ => match t (.fz p) σ with
    | none => .bad
    | some σ1 => match b σ1 with
      | .next σ2 => forV t b ps σ2
      | .cont σ2 => forV t b ps σ2
      | .brk σ2 => .next σ2
      | r => r
theorem forGo_ok (t : Tgt) (b : St Cx) (hp : ∀ q, q ∈ Cx → q.i ∉ t.own) {it : Nat → G → Option (Option D)} : ∀ (ps : List P) (ds : List D) (i : Nat) (ρ : Env) (g : G) (F : Fz) (As : Own) (σ : VEnv),
    (∀ g', Kp g g' F → ∀ j, it (i + j) g' = some ds[j]?) → frs g F ps ds → env Cx g F σ ρ As → Iv g F As [] → SimS1 Cx (t.own ++ b.asg) ρ g F As (forGo it t.m b.m (ds.length + 1) i ρ g) (forV t.v b.v ps σ) := by
  intro ps
  induction ps with
  | nil =>
    intro ds i ρ g F As σ look hps h iv
    cases hps
    refine ⟨ρ, g, F, As, ?_, Oks.refl h iv⟩
    unfold forGo
    rw [show it i g = some none from by simpa using look g Kp.rfl' 0]
  | cons p ps ih =>
    intro ds i ρ g F As σ look hps h iv
    obtain ⟨d, ds, rfl, hpd, hps⟩ := hps
    unfold forV forGo
    rw [show it i g = some (some d) from by simpa using look g Kp.rfl' 0]
    cases ht : t.v (.fz p) σ with
    | none => trivial
    | some σ1 =>
      obtain ⟨ρ1, As1, a1, a2, a3, a4, a5, a6⟩ := tgt_ok t hp (u := .fz p) (B := []) ⟨hpd, rfl⟩ h iv ht
      dsimp only
      rw [a1]
      have k0 : Oks Cx g F As ρ g F σ1 As1 ρ1 [] t.own := ⟨a2, a3, (Sp.refl g F _).less a4, fun j hj => (a5 j hj).1, a6⟩
      have hb := b.ok ρ1 σ1 g F As1 a2 a3
      have go : ∀ (ρ2 : Env) (g2 : G) (F2 : Fz) (As2 : Own) (σ2 : VEnv), Oks Cx g F As1 ρ1 g2 F2 σ2 As2 ρ2 [] b.asg → SimS1 Cx (t.own ++ b.asg) ρ g F As (forGo it t.m b.m (ds.length + 1) (i + 1) ρ2 g2) (forV t.v b.v ps σ2) := by
        intro ρ2 g2 F2 As2 σ2 k
        have kF : Kp g g2 F := Kp.of_eq fun a ha hl => k.sp.keep a hl fun hw => a3.nf a hw ha
        have := ih ds (i + 1) ρ2 g2 F2 As2 σ2 (fun g' kg j => by
          have := look g' (kF.trans (kg.mono k.sp.mono)) (j + 1)
          rw [show i + 1 + j = i + (j + 1) by omega]
          simpa using this) (frs_go k.sp.mono kF ps ds hps) k.env k.iv
        exact (SimS1.then (k0.trans k) this).wk fun j hj => by
          simp only [List.mem_append] at hj ⊢
          rcases hj with (h | h) | h | h <;> simp [h]
      cases hv : b.v σ1 with
      | next σ2 => rw [hv] at hb; obtain ⟨ρ2, g2, F2, As2, e, k⟩ := hb; dsimp only; rw [e]; exact go ρ2 g2 F2 As2 σ2 k
      | cont σ2 => rw [hv] at hb; obtain ⟨ρ2, g2, F2, As2, e, k⟩ := hb; dsimp only; rw [e]; exact go ρ2 g2 F2 As2 σ2 k
      | brk σ2 => rw [hv] at hb; obtain ⟨ρ2, g2, F2, As2, e, k⟩ := hb; dsimp only; rw [e]; exact ⟨ρ2, g2, F2, As2, rfl, k0.trans k⟩
      | ret u σ2 => rw [hv] at hb; obtain ⟨d', ρ2, g2, F2, As2, B2, e, e2, k⟩ := hb; dsimp only; rw [e]; exact ⟨d', ρ2, g2, F2, As2, B2, rfl, e2, k0.trans k⟩
      | exc x σ2 => rw [hv] at hb; obtain ⟨e', ρ2, g2, F2, As2, e, e2, k⟩ := hb; dsimp only; rw [e]; exact ⟨e', ρ2, g2, F2, As2, rfl, e2, k0.trans k⟩
      | bad => trivial
def forLV (w : VEnv → VR (List P)) (t : U → VEnv → Option VEnv) (b : VEnv → VS) : VEnv → VS := fun σ => onV (w σ) fun ps σ1 => forV t b ps σ1
def St.for' (w : It Cx) (t : Tgt) (b : St Cx) (hp : ∀ q, q ∈ Cx → q.i ∉ t.own) : St Cx := ⟨sFor w.m t.m b.m, forLV w.v t.v b.v, t.own ++ b.asg, fun ρ σ g F As h iv => SimS1.on (w.ok ρ σ g F As h iv) fun ps it g1 F1 As1 σ1 B1 h1 k1 => by
  obtain ⟨⟨ds, d1, d2, d3⟩, rfl⟩ := h1
  rw [d2]
  have k0 : Oks Cx g F As ρ g1 F1 σ1 As1 ρ [] [] := Oks.of k1
  exact SimS1.wk (asg := [] ++ (t.own ++ b.asg)) (SimS1.then k0 (forGo_ok (it := it.get) t b hp ps ds 0 ρ g1 F1 As1 σ1 (fun g' k j => by rw [Nat.zero_add]; exact d3 g' k j) d1 k1.env k1.iv)) (fun _ h => h)⟩
/-! raising -/
def raiseV (c : String) (fs : List String) (as : VA) : VEnv → VS := fun σ => onV (as σ) fun xs σ1 => match toUs xs with
  | some us => if us.length = fs.length then .exc ⟨c, some (fs.zip (us.map U.toP))⟩ σ1 else .bad
  | none => .bad
def St.raise (c : String) (fs : List String) (as : Ar Cx) : St Cx := ⟨sRaise c fs as.m, raiseV c fs as.v, [], fun ρ σ g F As h iv => SimS1.on (as.ok ρ σ g F As h iv) fun xs ds g1 F1 As1 σ1 B1 h1 k1 => by
  cases hu : toUs xs with
  | none => trivial
  | some us =>
    have h2 := toUs_rls hu h1
    have hl := rls_len h2
    dsimp only
    by_cases hf : us.length = fs.length
    · rw [if_pos hf, if_pos (show ds.length = fs.length by omega)]
      have kz := k1.frz
      have e := rls_frs us ds B1 h2
      obtain ⟨a, b, c'⟩ := grow (t := [.xd (fs.zip ds)]) (B := []) kz.iv kz.env (by simp) (by simp)
      have Fb : ∀ z, (F1 z ∨ z ∈ B1) ∨ z = g1.length → z < (g1 ++ [O.xd (fs.zip ds)]).length := fun z hz => by
        rcases hz with hz | hz
        · exact a.fb z hz
        · rw [hz]; simp
      have kF : ∀ z, F1 z ∨ z ∈ B1 → (F1 z ∨ z ∈ B1) ∨ z = g1.length := fun _ => .inl
      refine ⟨_, ρ, _, fun z => (F1 z ∨ z ∈ B1) ∨ z = g1.length, As1, rfl, ⟨rfl, ?_⟩, ?_, ?_, ?_, fun _ _ => rfl, rfl⟩
      · refine ⟨.inr rfl, fs.zip ds, get_snoc _ _, ?_, ?_⟩
        · have l2 : fs.length ≤ (us.map U.toP).length := by rw [List.length_map]; omega
          rw [List.map_fst_zip l2, List.map_fst_zip (show fs.length ≤ ds.length by omega)]
        · have l2 : (us.map U.toP).length ≤ fs.length := by rw [List.length_map]; omega
          rw [List.map_snd_zip l2, List.map_snd_zip (show ds.length ≤ fs.length by omega), ← toPs_map]
          exact frs_go kF kp_grow _ _ e
      · exact env_go b kF Kp.rfl' Kp.rfl'
      · exact ⟨Fb, a.ndB, a.nd, a.dj, a.djB, fun z hz hf => hf.elim (a.nf z hz) fun e => by
          rcases hz with hz | ⟨i, hz⟩
          · cases hz
          · have := kz.iv.lt z (.inr ⟨i, hz⟩); omega, a.lt⟩
      · have s := kz.sp.trans c'
        exact ⟨s.len, s.keep, fun z hz => .inl (s.mono z hz), fun z hz => hz.elim (s.back z) fun e => .inr (.inr (by rw [e]; exact kz.sp.len)), s.ow⟩
    · rw [if_neg hf]; trivial⟩
def St.raise0 (c : String) : St Cx := ⟨sRaise0 c, .exc ⟨c, none⟩, [], fun ρ σ g F As h iv => ⟨⟨c, none⟩, ρ, g, F, As, rfl, ⟨rfl, trivial⟩, Oks.refl h iv⟩⟩
end
/-! ### defs -/
def outsV (n : Nat) (ios : List Nat) (σ : VEnv) : VEnv := (List.range n).map fun i => if ios.contains i then (σ[i]?).join else none
def fnV (n m : Nat) (ios : List Nat) (b : VEnv → VS) : List U → VF := fun us => if us.length = n then match b (us.map some ++ List.replicate (m - n) none) with
  | .next σ => .ok (.fz .non) (outsV n ios σ)
  | .ret u σ => .ok u (outsV n ios σ)
  | .exc x σ => .exc x (outsV n ios σ)
  | _ => .bad else .bad
theorem outs_env {n : Nat} {ios asg : List Nat} {g g' : G} {F F' : Fz} {As As' : Own} {σ' : VEnv} {ρ ρ' : Env} {ds : List D} {B : List Nat} (hl : ds.length = n) (hd : ∀ i, i ∈ ios → i ∉ asg) (k : Oks [] g F As (ds.map some ++ ρ) g' F' σ' As' ρ' B asg) :
    env [] g' F' (outsV n ios σ') (ds.map some) (fun i => if i < n then As' i else []) ∧ Iv g' F' (fun i => if i < n then As' i else []) B ∧ (∀ a, ow (fun i => if i < n then As' i else []) B a → ow As' B a) := by
  have mem : ∀ i a, a ∈ (if i < n then As' i else []) → a ∈ As' i := fun i a h => by
    split at h
    · exact h
    · cases h
  refine ⟨⟨by simp [outsV, hl], fun i u hu => ?_, fun _ h => by cases h⟩, ⟨k.iv.fb, k.iv.ndB, fun i => by
    split
    · exact k.iv.nd i
    · exact List.nodup_nil, fun i j a hi hj => k.iv.dj i j a (mem i a hi) (mem j a hj), fun i a ha => k.iv.djB i a (mem i a ha), fun a ha => k.iv.nf a (ha.imp id fun ⟨i, h⟩ => ⟨i, mem i a h⟩), fun a ha => k.iv.lt a (ha.imp id fun ⟨i, h⟩ => ⟨i, mem i a h⟩)⟩, fun a ha => ha.imp id fun ⟨i, h⟩ => ⟨i, mem i a h⟩⟩
  unfold outsV at hu
  rw [List.getElem?_map, Option.map_eq_some_iff] at hu
  obtain ⟨j, hj, e⟩ := hu
  obtain ⟨hj1, hj2⟩ := List.getElem?_eq_some_iff.mp hj
  simp at hj1 hj2
  subst hj2
  split at e
  · rename_i hio
    have hio : i ∈ ios := by simpa using hio
    have hs : σ'[i]? = some (some u) := by
      cases hz : σ'[i]? with
      | none => rw [hz] at e; cases e
      | some o => rw [hz] at e; rw [show o = some u from e]
    obtain ⟨d, h1, h2⟩ := k.env.2 i u hs
    rw [k.ag i (hd i hio), List.getElem?_append_left (by simp; omega)] at h1
    exact ⟨d, h1, by rw [if_pos hj1]; exact h2⟩
  · cases e
def Fn.mk' (n m : Nat) (ios : List Nat) (b : St []) (hd : ∀ i, i ∈ ios → i ∉ b.asg) : Fn := ⟨fn n m b.m, fnV n m ios b.v, ios, fun ds us g F As h iv => by
  have hl : us.length = ds.length := by have := h.1; simpa using this
  unfold fnV fn
  by_cases hn : us.length = n
  · rw [if_pos hn, if_pos (show ds.length = n by omega)]
    have he : env [] g F (us.map some ++ List.replicate (m - n) none) (ds.map some ++ List.replicate (m - n) none) As := by
      refine ⟨by simp [hl], fun i u hu => ?_, fun _ h => by cases h⟩
      by_cases hi : i < us.length
      · rw [List.getElem?_append_left (by simpa using hi)] at hu
        rw [List.getElem?_append_left (by simp; omega)]
        exact h.2 i u hu
      · rw [List.getElem?_append_right (by simp; omega)] at hu
        rw [List.getElem?_replicate] at hu
        split at hu <;> cases hu
    have hb := b.ok _ _ g F As he iv
    cases hv : b.v (us.map some ++ List.replicate (m - n) none) with
    | next σ' =>
      rw [hv] at hb
      obtain ⟨ρ', g', F', As', e, k⟩ := hb
      obtain ⟨a1, a2, a3⟩ := outs_env (n := n) (ds := ds) (by omega) hd k
      dsimp only
      rw [e]
      exact ⟨.non, g', F', _, [], rfl, ⟨rfl, rfl⟩, a1, a2, k.sp.less a3⟩
    | ret u σ' =>
      rw [hv] at hb
      obtain ⟨d, ρ', g', F', As', B, e, e2, k⟩ := hb
      obtain ⟨a1, a2, a3⟩ := outs_env (n := n) (ds := ds) (by omega) hd k
      dsimp only
      rw [e]
      exact ⟨d, g', F', _, B, rfl, e2, a1, a2, k.sp.less a3⟩
    | exc x σ' =>
      rw [hv] at hb
      obtain ⟨x', ρ', g', F', As', e, e2, k⟩ := hb
      obtain ⟨a1, a2, a3⟩ := outs_env (n := n) (ds := ds) (by omega) hd k
      dsimp only
      rw [e]
      exact ⟨x', g', F', _, rfl, e2, a1, a2, k.sp.less a3⟩
    | brk σ' => trivial
    | cont σ' => trivial
    | bad => trivial
  · rw [if_neg hn]; trivial⟩
def Fn.bad : Fn := ⟨fun _ _ => .bad, fun _ => .bad, [], fun _ _ _ _ _ _ _ => trivial⟩
end Py
end

section
set_option autoImplicit false
set_option linter.all false
/-! The operations over trees. -/
namespace Py
section
variable {g : G} {F : Fz} {p q : P} {ps qs : List P} {x y d : D} {ds : List D} {u : U}
/-! what is known of an operand by its tree -/
theorem d_int {i : Int} (h : fr1 g F (.int i) d) : d = .int i := h
theorem d_str {i : List Char} (h : fr1 g F (.str i) d) : d = .str i := h
theorem d_bl {i : Bool} (h : fr1 g F (.bl i) d) : d = .bl i := h
theorem d_non (h : fr1 g F .non d) : d = .non := h
theorem d_tup (h : fr1 g F (.tup ps) d) : ∃ ds, d = .tup ds ∧ frs g F ps ds := h
theorem d_lst (h : fr1 g F (.lst ps) d) : ∃ r xs, d = .ref r ∧ g[r]? = some (.lst xs) ∧ frs g F ps xs := h
theorem d_scr (h : fr1 g F (.scr ps) d) : ∃ r xs, d = .ref r ∧ F r ∧ g[r]? = some (.frz xs) ∧ frs g F ps xs := h
theorem made_val {o : Option D} (h : o = some d) (hf : fr g F p d) : Made g F (.fz p) (o.map fun d => (d, g)) := by rw [h]; exact made_fz hf
theorem frs_flatten {n : Nat} (h : frs g F ps ds) : frs g F (List.replicate n ps).flatten (List.replicate n ds).flatten := by
  induction n with
  | zero => rfl
  | succ n ih => rw [List.replicate_succ, List.replicate_succ, List.flatten_cons, List.flatten_cons]; exact frs_append h ih
end
/-! ### numbers, texts, sequences -/
def addP : P → P → Option U
  | .int i, .int j => some (.fz (.int (i + j)))
  | .str s, .str t => if s.length + t.length ≤ LINE then some (.fz (.str (s ++ t))) else none
  | .tup s, .tup t => if s.length + t.length ≤ LINE then some (.fz (.tup (s ++ t))) else none
  | .lst s, .lst t => if s.length + t.length ≤ LINE then some (.own (s ++ t)) else none
  | _, _ => none
def Add : Op2 := ⟨oAdd, addP, fun g F p q x y u hF h1 h2 e => by
  unfold addP at e
  split at e
  · cases e; rw [d_int h1, d_int h2]; exact made_fz rfl
  · split at e
    · rename_i hl; cases e; rw [d_str h1, d_str h2]; simp only [oAdd, if_pos hl]; exact made_fz rfl
    · cases e
  · split at e
    · rename_i hl; cases e
      obtain ⟨ds, rfl, k1⟩ := d_tup h1; obtain ⟨es, rfl, k2⟩ := d_tup h2
      have hl' : ds.length + es.length ≤ LINE := by rw [frs_len k1, frs_len k2]; exact hl
      simp only [oAdd, if_pos hl']; exact made_fz ⟨_, rfl, frs_append k1 k2⟩
    · cases e
  · split at e
    · rename_i hl; cases e
      obtain ⟨r1, ds, rfl, e1, h1⟩ := d_lst h1; obtain ⟨r2, es, rfl, e2, h2⟩ := d_lst h2
      have hl' : ds.length + es.length ≤ LINE := by rw [frs_len h1, frs_len h2]; exact hl
      simp only [oAdd, mutOf_lst e1, mutOf_lst e2, if_pos hl']; exact made_lst (frs_append h1 h2)
    · cases e
  · cases e⟩
def subP : P → P → Option U
  | .int i, .int j => some (.fz (.int (i - j)))
  | _, _ => none
def Sub : Op2 := ⟨oSub, subP, fun g F p q x y u hF h1 h2 e => by
  unfold subP at e
  split at e
  · cases e; rw [d_int h1, d_int h2]; exact made_fz rfl
  · cases e⟩
def mulP : P → P → Option U
  | .int i, .int j => if mulOk i j then some (.fz (.int (i * j))) else none
  | .str s, .int n => if 2 ≤ n ∧ n ≤ 1000 ∧ s.length ≤ 1000 then some (.fz (.str (List.replicate n.toNat s).flatten)) else none
  | .tup s, .int n => if 2 ≤ n ∧ n ≤ 1000 ∧ s.length ≤ 1000 ∧ s.length ≠ 0 then some (.fz (.tup (List.replicate n.toNat s).flatten)) else none
  | .lst s, .int n => if 0 ≤ n ∧ n ≤ 1000 ∧ s.length * n.toNat ≤ LINE then some (.own (List.replicate n.toNat s).flatten) else none
  | _, _ => none
def Mul : Op2 := ⟨oMul, mulP, fun g F p q x y u hF h1 h2 e => by
  unfold mulP at e
  split at e
  · split at e
    · rename_i hl; cases e; rw [d_int h1, d_int h2]; simp only [oMul, if_pos hl]; exact made_fz rfl
    · cases e
  · split at e
    · rename_i hl; cases e; rw [d_str h1, d_int h2]; simp only [oMul, if_pos hl]; exact made_fz rfl
    · cases e
  · split at e
    · rename_i hl; cases e
      obtain ⟨ds, rfl, k1⟩ := d_tup h1
      rw [d_int h2]
      rw [← frs_len k1] at hl
      simp only [oMul, if_pos hl]; exact made_fz ⟨_, rfl, frs_flatten k1⟩
    · cases e
  · split at e
    · rename_i hl; cases e
      obtain ⟨r1, ds, rfl, e1, h1⟩ := d_lst h1
      rw [d_int h2]
      rw [← frs_len h1] at hl
      simp only [oMul, mutOf_lst e1, if_pos hl]; exact made_lst (frs_flatten h1)
    · cases e
  · cases e⟩
def fdivP : P → P → Option U
  | .int i, .int j => if 0 < j ∧ j.natAbs.log2 < 9000 then some (.fz (.int (i / j))) else none
  | _, _ => none
def Fdiv : Op2 := ⟨oFdiv, fdivP, fun g F p q x y u hF h1 h2 e => by
  unfold fdivP at e
  split at e
  · split at e
    · rename_i hl; cases e; rw [d_int h1, d_int h2]; simp only [oFdiv, if_pos hl]; exact made_fz rfl
    · cases e
  · cases e⟩
def modP : P → P → Option U
  | .int i, .int j => if 0 < j then some (.fz (.int (i % j))) else none
  | _, _ => none
def Mod : Op2 := ⟨oMod, modP, fun g F p q x y u hF h1 h2 e => by
  unfold modP at e
  split at e
  · split at e
    · rename_i hl; cases e; rw [d_int h1, d_int h2]; simp only [oMod, if_pos hl]; exact made_fz rfl
    · cases e
  · cases e⟩
def powP : P → P → Option U
  | .int i, .int j => if powOk i j then some (.fz (.int (i ^ j.toNat))) else none
  | _, _ => none
def Pow : Op2 := ⟨oPow, powP, fun g F p q x y u hF h1 h2 e => by
  unfold powP at e
  split at e
  · split at e
    · rename_i hl; cases e; rw [d_int h1, d_int h2]; simp only [oPow, if_pos hl]; exact made_fz rfl
    · cases e
  · cases e⟩
def negP : P → Option U
  | .int i => some (.fz (.int (-i)))
  | _ => none
def Neg : Op1 := ⟨oNeg, negP, fun g F p x u hF h1 e => by
  unfold negP at e
  split at e
  · cases e; rw [d_int h1]; exact made_fz rfl
  · cases e⟩
/-! ### comparisons -/
abbrev ub (b : Bool) : U := .fz (.bl b)
def eqP (p q : P) : Option U := if p.le 60 && q.le 60 then some (ub (P.eqv p q)) else none
def neP (p q : P) : Option U := if p.le 60 && q.le 60 then some (ub (!P.eqv p q)) else none
def Eq_ : OpB := ⟨oEq, eqP, fun g F p q x y u hF h1 h2 e => by
  unfold eqP at e
  split at e
  · rename_i hl
    simp only [Bool.and_eq_true] at hl
    cases e
    exact ⟨_, by unfold oEq eqD; rw [fr1_viewN hl.1 h1, fr1_viewN hl.2 h2]; rfl, rfl, rfl⟩
  · cases e⟩
def Ne_ : OpB := ⟨oNe, neP, fun g F p q x y u hF h1 h2 e => by
  unfold neP at e
  split at e
  · rename_i hl
    simp only [Bool.and_eq_true] at hl
    cases e
    exact ⟨_, by unfold oNe eqD; rw [fr1_viewN hl.1 h1, fr1_viewN hl.2 h2]; rfl, rfl, rfl⟩
  · cases e⟩
def ltP : P → P → Option U
  | .int i, .int j => some (ub (decide (i < j)))
  | _, _ => none
def leP : P → P → Option U
  | .int i, .int j => some (ub (decide (i ≤ j)))
  | _, _ => none
def gtP : P → P → Option U
  | .int i, .int j => some (ub (decide (j < i)))
  | _, _ => none
def geP : P → P → Option U
  | .int i, .int j => some (ub (decide (j ≤ i)))
  | _, _ => none
def Lt_ : OpB := ⟨oLt, ltP, fun g F p q x y u hF h1 h2 e => by
  unfold ltP at e
  split at e
  · cases e; rw [d_int h1, d_int h2]; exact ⟨_, rfl, rfl, rfl⟩
  · cases e⟩
def Le_ : OpB := ⟨oLe, leP, fun g F p q x y u hF h1 h2 e => by
  unfold leP at e
  split at e
  · cases e; rw [d_int h1, d_int h2]; exact ⟨_, rfl, rfl, rfl⟩
  · cases e⟩
def Gt_ : OpB := ⟨oGt, gtP, fun g F p q x y u hF h1 h2 e => by
  unfold gtP at e
  split at e
  · cases e; rw [d_int h1, d_int h2]; exact ⟨_, rfl, rfl, rfl⟩
  · cases e⟩
def Ge_ : OpB := ⟨oGe, geP, fun g F p q x y u hF h1 h2 e => by
  unfold geP at e
  split at e
  · cases e; rw [d_int h1, d_int h2]; exact ⟨_, rfl, rfl, rfl⟩
  · cases e⟩
def isNon : P → Bool
  | .non => true
  | _ => false
def isNP (p q : P) : Option U := if isNon q then some (ub (isNon p)) else none
def notNP (p q : P) : Option U := if isNon q then some (ub (!isNon p)) else none
theorem isN_fr {g : G} {F : Fz} {p : P} {x : D} (h : fr1 g F p x) : oIsN x .non g = some (.bl (isNon p)) ∧ oNotN x .non g = some (.bl (!isNon p)) := by
  cases p with
  | non => rw [d_non h]; exact ⟨rfl, rfl⟩
  | bl _ => rw [d_bl h]; exact ⟨rfl, rfl⟩
  | int _ => rw [d_int h]; exact ⟨rfl, rfl⟩
  | str _ => rw [d_str h]; exact ⟨rfl, rfl⟩
  | tup _ => obtain ⟨_, rfl, _⟩ := d_tup h; exact ⟨rfl, rfl⟩
  | lst _ => obtain ⟨_, _, rfl, _⟩ := d_lst h; exact ⟨rfl, rfl⟩
  | scr _ => obtain ⟨_, _, rfl, _⟩ := d_scr h; exact ⟨rfl, rfl⟩
  | dct _ _ => exact h.elim
  | ins _ _ _ => exact h.elim
def IsN_ : OpB := ⟨oIsN, isNP, fun g F p q x y u hF h1 h2 e => by
  unfold isNP at e
  split at e
  · rename_i hq
    cases q <;> cases hq
    cases e
    rw [d_non h2]
    exact ⟨_, (isN_fr h1).1, rfl, rfl⟩
  · cases e⟩
def NotN_ : OpB := ⟨oNotN, notNP, fun g F p q x y u hF h1 h2 e => by
  unfold notNP at e
  split at e
  · rename_i hq
    cases q <;> cases hq
    cases e
    rw [d_non h2]
    exact ⟨_, (isN_fr h1).2, rfl, rfl⟩
  · cases e⟩
/-- in -/
def flatP : P → Bool
  | .non | .bl _ | .int _ | .str _ => true
  | _ => false
def inP' : P → P → Option Bool
  | .str [c], .str t => some (decide (c ∈ t))
  | p, .tup ps => if flatP p && ps.all flatP then some (ps.any fun q => P.eqv q p) else none
  | p, .lst ps => if p.le 60 && P.les 60 ps then some (ps.any fun q => P.eqv q p) else none
  | _, _ => none
theorem flat_fr {g : G} {F : Fz} {p : P} {x : D} (h : flatP p = true) (hf : fr g F p x) : flat x = true := by
  cases p <;> first | cases h | skip
  all_goals (rw [show x = _ from hf]; rfl)
theorem eqF_fr {g : G} {F : Fz} {p q : P} {x y : D} (h : flatP p = true) (h' : flatP q = true) (hf : fr g F p x) (hg : fr g F q y) : eqF x y = P.eqv p q := by
  cases p <;> first | cases h | skip
  all_goals (cases q <;> first | cases h' | skip)
  all_goals (rw [show x = _ from hf, show y = _ from hg]; simp [eqF, P.eqv])
theorem flats_fr {g : G} {F : Fz} : ∀ {ps : List P} {ds : List D}, ps.all flatP = true → frs g F ps ds → ds.all flat = true
  | [], _, _, h => by rw [h]; rfl
  | p :: ps, _, z, ⟨d, r, e, h1, h2⟩ => by
    simp only [List.all_cons, Bool.and_eq_true] at z
    rw [e]; simp [flat_fr z.1 h1]; simpa using flats_fr z.2 h2
theorem any_fr {g : G} {F : Fz} {p : P} {x : D} (hp : flatP p = true) (hx : fr g F p x) : ∀ {ps : List P} {ds : List D}, ps.all flatP = true → frs g F ps ds → (ds.any fun y => eqF y x) = ps.any fun q => P.eqv q p
  | [], _, _, h => by rw [h]; rfl
  | q :: ps, _, z, ⟨d, r, e, h1, h2⟩ => by
    simp only [List.all_cons, Bool.and_eq_true] at z
    rw [e]; simp only [List.any_cons]; rw [eqF_fr z.1 hp h1 hx, any_fr hp hx z.2 h2]
theorem in_fr {g : G} {F : Fz} {p q : P} {x y : D} {b : Bool} (h1 : fr1 g F p x) (h2 : fr1 g F q y) (e : inP' p q = some b) : inD x y g = some b := by
  cases q with
  | str t =>
    rw [d_str h2]
    rcases p with _ | _ | _ | s | _ | _ | _ | _ | _ <;> first | (simp [inP'] at e; done) | skip
    rw [d_str h1]
    rcases s with _ | ⟨c, _ | ⟨c', s⟩⟩
    · simp [inP'] at e
    · simpa [inP'] using e
    · simp [inP'] at e
  | tup ps =>
    obtain ⟨ds, rfl, k2⟩ := d_tup h2
    have e' : (if flatP p && ps.all flatP then some (ps.any fun q => P.eqv q p) else none) = some b := by
      rcases p with _ | _ | _ | s | _ | _ | _ | _ | _ <;> first | exact e | (rcases s with _ | ⟨c, _ | ⟨c', s⟩⟩ <;> exact e)
    split at e'
    · rename_i hf
      simp only [Bool.and_eq_true] at hf
      cases e'
      have hx : fr g F p x := by cases p <;> first | exact h1 | exact (Bool.noConfusion hf.1)
      rw [inD_tup, flat_fr hf.1 hx, flats_fr hf.2 k2, any_fr hf.1 hx hf.2 k2]
      rfl
    · cases e'
  | lst ps =>
    obtain ⟨r, ds, rfl, hr, h2⟩ := d_lst h2
    have e' : (if p.le 60 && P.les 60 ps then some (ps.any fun q => P.eqv q p) else none) = some b := by
      rcases p with _ | _ | _ | s | _ | _ | _ | _ | _ <;> first | exact e | (rcases s with _ | ⟨c, _ | ⟨c', s⟩⟩ <;> exact e)
    split at e'
    · rename_i hf
      simp only [Bool.and_eq_true] at hf
      cases e'
      rw [inD_ref, lstOf_lst hr]
      dsimp only
      rw [fr1_viewN hf.1 h1, frs_viewN 60 ps ds hf.2 h2]
    · cases e'
  | _ => rcases p with _ | _ | _ | s | _ | _ | _ | _ | _ <;> first | (simp [inP'] at e; done) | (rcases s with _ | ⟨c, _ | ⟨c', s⟩⟩ <;> simp [inP'] at e)
def inP (p q : P) : Option U := (inP' p q).map ub
def notInP (p q : P) : Option U := (inP' p q).map fun b => ub (!b)
def In_ : OpB := ⟨oIn, inP, fun g F p q x y u hF h1 h2 e => by
  simp only [inP, Option.map_eq_some_iff] at e
  obtain ⟨b, e, rfl⟩ := e
  exact ⟨_, by unfold oIn; rw [in_fr h1 h2 e]; rfl, rfl, rfl⟩⟩
def NotIn_ : OpB := ⟨oNotIn, notInP, fun g F p q x y u hF h1 h2 e => by
  simp only [notInP, Option.map_eq_some_iff] at e
  obtain ⟨b, e, rfl⟩ := e
  exact ⟨_, by unfold oNotIn; rw [in_fr h1 h2 e]; rfl, rfl, rfl⟩⟩
/-! ### places -/
def idxP : P → P → Option U
  | .str s, .int i => if s.length ≤ LINE then (atI s i).map fun c => .fz (.str [c]) else none
  | .tup ps, .int i => (atI ps i).map .fz
  | .lst ps, .int i => (atI ps i).map .fz
  | .scr ps, .int i => (atI ps i).map .fz
  | _, _ => none
theorem atI_fr {g : G} {F : Fz} {ps : List P} {ds : List D} {i : Int} {p : P} (h : frs g F ps ds) (e : atI ps i = some p) : ∃ d, atI ds i = some d ∧ fr g F p d := by
  unfold atI at e ⊢
  rw [frs_len h]
  rw [Option.bind_eq_some_iff] at e
  obtain ⟨j, e1, e2⟩ := e
  rw [e1]
  rcases frs_get (i := j) h with ⟨q, d, h1, h2, h3⟩ | ⟨h1, _⟩
  · rw [e2] at h1; cases h1; exact ⟨d, h2, h3⟩
  · rw [e2] at h1; cases h1
def Idx : OpB := ⟨oIdx, idxP, fun g F p q x y u hF h1 h2 e => by
  unfold idxP at e
  split at e
  · split at e
    · rename_i hl
      rw [Option.map_eq_some_iff] at e
      obtain ⟨c, e, rfl⟩ := e
      rw [d_str h1, d_int h2]
      exact ⟨_, by unfold oIdx; dsimp only; rw [if_pos hl, e]; rfl, rfl, rfl⟩
    · cases e
  · rw [Option.map_eq_some_iff] at e
    obtain ⟨c, e, rfl⟩ := e
    obtain ⟨ds, rfl, k1⟩ := d_tup h1
    rw [d_int h2]
    obtain ⟨d, e1, e2⟩ := atI_fr k1 e
    exact ⟨d, e1, e2, rfl⟩
  · rw [Option.map_eq_some_iff] at e
    obtain ⟨c, e, rfl⟩ := e
    obtain ⟨r, ds, rfl, hr, h1⟩ := d_lst h1
    rw [d_int h2]
    obtain ⟨d, e1, e2⟩ := atI_fr h1 e
    exact ⟨d, by rw [idx_ref _ (lstOf_lst hr)]; exact e1, e2, rfl⟩
  · rw [Option.map_eq_some_iff] at e
    obtain ⟨c, e, rfl⟩ := e
    obtain ⟨r, ds, rfl, _, hr, h1⟩ := d_scr h1
    rw [d_int h2]
    obtain ⟨d, e1, e2⟩ := atI_fr h1 e
    exact ⟨d, by rw [idx_ref _ (lstOf_frz hr)]; exact e1, e2, rfl⟩
  · cases e⟩
/-! ### built-ins -/
structure OpU where
  m : B1
  v : P → Option U
  ok : ∀ (g : G) (F : Fz) (p : P) (x : D) (u : U), (∀ a, F a → a < g.length) → fr1 g F p x → v p = some u → ∃ d, m x g = some d ∧ rl g F u d []
def OpU.op (f : OpU) : Op1 := ⟨p1 f.m, f.v, fun g F p x u hF h1 h => by
  obtain ⟨d, e, hr⟩ := f.ok g F p x u hF h1 h
  exact ⟨d, [], [], by unfold p1; rw [e, List.append_nil]; rfl, by rw [List.append_nil]; exact hr, List.nodup_nil, fun _ h => by cases h⟩⟩
def tyP : P → Option (Option Ty)
  | .non => some none
  | .bl _ => some (some .bool)
  | .int _ => some (some .int)
  | .str _ => some (some .str)
  | .tup _ => some (some .tuple)
  | .lst _ => some (some .list)
  | .scr _ => some (some .list)
  | _ => none
def isiP (t : Ty) (p : P) : Option U := (tyP p).map fun u => ub (isTy t u)
theorem ty_fr {g : G} {F : Fz} {p : P} {x : D} {u : Option Ty} (h : fr1 g F p x) (e : tyP p = some u) : tyOf x g = some u := by
  cases p with
  | non => rw [d_non h]; exact e
  | bl _ => rw [d_bl h]; exact e
  | int _ => rw [d_int h]; exact e
  | str _ => rw [d_str h]; exact e
  | tup _ => obtain ⟨_, rfl, _⟩ := d_tup h; exact e
  | lst _ => obtain ⟨_, _, rfl, hr, _⟩ := d_lst h; rw [← e]; exact ty_ref (lstOf_lst hr)
  | scr _ => obtain ⟨_, _, rfl, _, hr, _⟩ := d_scr h; rw [← e]; exact ty_ref (lstOf_frz hr)
  | _ => cases e
def Isi (t : Ty) : OpU := ⟨oIsi t, isiP t, fun g F p x u hF h1 e => by
  simp only [isiP, Option.map_eq_some_iff] at e
  obtain ⟨b, e, rfl⟩ := e
  exact ⟨_, by unfold oIsi; rw [ty_fr h1 e]; rfl, rfl, rfl⟩⟩
def intP : P → Option U
  | .int i => some (.fz (.int i))
  | .bl b => some (.fz (.int (b2i b)))
  | _ => none
def Int_ : OpU := ⟨oInt, intP, fun g F p x u hF h1 e => by
  unfold intP at e
  split at e
  · cases e; rw [d_int h1]; exact ⟨_, rfl, rfl, rfl⟩
  · cases e; rw [d_bl h1]; exact ⟨_, rfl, rfl, rfl⟩
  · cases e⟩
def lenP : P → Option U
  | .str s => if s.length ≤ LINE then some (.fz (.int s.length)) else none
  | .tup ps => some (.fz (.int ps.length))
  | .lst ps => some (.fz (.int ps.length))
  | .scr ps => some (.fz (.int ps.length))
  | _ => none
def Len : OpU := ⟨oLen, lenP, fun g F p x u hF h1 e => by
  unfold lenP at e
  split at e
  · split at e
    · rename_i hl; cases e; rw [d_str h1]; exact ⟨_, by simp [hl], rfl, rfl⟩
    · cases e
  · cases e; obtain ⟨ds, rfl, k1⟩ := d_tup h1; exact ⟨_, rfl, by rw [← frs_len k1]; rfl, rfl⟩
  · cases e; obtain ⟨r, ds, rfl, hr, h1⟩ := d_lst h1; exact ⟨_, len_ref (lstOf_lst hr), by rw [frs_len h1]; rfl, rfl⟩
  · cases e; obtain ⟨r, ds, rfl, _, hr, h1⟩ := d_scr h1; exact ⟨_, len_ref (lstOf_frz hr), by rw [frs_len h1]; rfl, rfl⟩
  · cases e⟩
def ordP : P → Option U
  | .str [c] => some (.fz (.int c.toNat))
  | _ => none
def Ord_ : OpU := ⟨oOrd, ordP, fun g F p x u hF h1 e => by
  unfold ordP at e
  split at e
  · cases e; rw [d_str h1]; exact ⟨_, rfl, rfl, rfl⟩
  · cases e⟩
def minP : P → P → Option U
  | .int i, .int j => some (.fz (.int (if j < i then j else i)))
  | _, _ => none
def maxP : P → P → Option U
  | .int i, .int j => some (.fz (.int (if j > i then j else i)))
  | _, _ => none
def Min_ : OpB := ⟨oMin, minP, fun g F p q x y u hF h1 h2 e => by
  unfold minP at e
  split at e
  · cases e; rw [d_int h1, d_int h2]; exact ⟨_, rfl, rfl, rfl⟩
  · cases e⟩
def Max_ : OpB := ⟨oMax, maxP, fun g F p q x y u hF h1 h2 e => by
  unfold maxP at e
  split at e
  · cases e; rw [d_int h1, d_int h2]; exact ⟨_, rfl, rfl, rfl⟩
  · cases e⟩
def allIP : List P → Option (List Int)
  | [] => some []
  | .int i :: r => (allIP r).map (i :: ·)
  | _ :: _ => none
def allSP : List P → Option (List (List Char))
  | [] => some []
  | .str i :: r => (allSP r).map (i :: ·)
  | _ :: _ => none
theorem allI_fr {g : G} {F : Fz} : ∀ {ps : List P} {ds : List D} {is : List Int}, frs g F ps ds → allIP ps = some is → allI ds = some is
  | [], _, _, h, e => by rw [h]; exact e
  | .int i :: ps, _, _, ⟨d, r, e1, h1, h2⟩, e => by
    simp only [allIP, Option.map_eq_some_iff] at e
    obtain ⟨is, e, rfl⟩ := e
    rw [e1, show d = .int i from h1]
    simp only [allI, allI_fr h2 e, Option.map_some]
  | .non :: _, _, _, _, e => by cases e
  | .bl _ :: _, _, _, _, e => by cases e
  | .str _ :: _, _, _, _, e => by cases e
  | .tup _ :: _, _, _, _, e => by cases e
  | .lst _ :: _, _, _, _, e => by cases e
  | .scr _ :: _, _, _, _, e => by cases e
  | .dct _ _ :: _, _, _, _, e => by cases e
  | .ins _ _ _ :: _, _, _, _, e => by cases e
theorem allS_fr {g : G} {F : Fz} : ∀ {ps : List P} {ds : List D} {is : List (List Char)}, frs g F ps ds → allSP ps = some is → allS ds = some is
  | [], _, _, h, e => by rw [h]; exact e
  | .str i :: ps, _, _, ⟨d, r, e1, h1, h2⟩, e => by
    simp only [allSP, Option.map_eq_some_iff] at e
    obtain ⟨is, e, rfl⟩ := e
    rw [e1, show d = .str i from h1]
    simp only [allS, allS_fr h2 e, Option.map_some]
  | .non :: _, _, _, _, e => by cases e
  | .bl _ :: _, _, _, _, e => by cases e
  | .int _ :: _, _, _, _, e => by cases e
  | .tup _ :: _, _, _, _, e => by cases e
  | .lst _ :: _, _, _, _, e => by cases e
  | .scr _ :: _, _, _, _, e => by cases e
  | .dct _ _ :: _, _, _, _, e => by cases e
  | .ins _ _ _ :: _, _, _, _, e => by cases e
/-- a list's or a tuple's items -/
def seqP : P → Option (List P)
  | .tup ps => some ps
  | .lst ps => some ps
  | .scr ps => some ps
  | _ => none
theorem seq_fr {g : G} {F : Fz} {p : P} {x : D} {ps : List P} (h : fr1 g F p x) (e : seqP p = some ps) : ∃ ds, seqOf x g = some ds ∧ frs g F ps ds := by
  cases p with
  | tup qs => cases e; obtain ⟨ds, rfl, k⟩ := d_tup h; exact ⟨ds, rfl, k⟩
  | lst qs => cases e; obtain ⟨r, ds, rfl, hr, h⟩ := d_lst h; exact ⟨ds, lstOf_lst hr, h⟩
  | scr qs => cases e; obtain ⟨r, ds, rfl, _, hr, h⟩ := d_scr h; exact ⟨ds, lstOf_frz hr, h⟩
  | _ => cases e
def maxLP (p : P) : Option U := ((seqP p).bind allIP).bind fun is => (maxI is).map fun m => .fz (.int m)
def minLP (p : P) : Option U := ((seqP p).bind allIP).bind fun is => (minI is).map fun m => .fz (.int m)
def MaxL : OpU := ⟨oMaxL, maxLP, fun g F p x u hF h1 e => by
  simp only [maxLP, Option.bind_eq_some_iff, Option.map_eq_some_iff] at e
  obtain ⟨is, ⟨ps, e1, e2⟩, m, e3, rfl⟩ := e
  obtain ⟨ds, e4, e5⟩ := seq_fr h1 e1
  exact ⟨_, by unfold oMaxL; rw [e4, Option.bind_some, allI_fr e5 e2, Option.bind_some, e3]; rfl, rfl, rfl⟩⟩
def MinL : OpU := ⟨oMinL, minLP, fun g F p x u hF h1 e => by
  simp only [minLP, Option.bind_eq_some_iff, Option.map_eq_some_iff] at e
  obtain ⟨is, ⟨ps, e1, e2⟩, m, e3, rfl⟩ := e
  obtain ⟨ds, e4, e5⟩ := seq_fr h1 e1
  exact ⟨_, by unfold oMinL; rw [e4, Option.bind_some, allI_fr e5 e2, Option.bind_some, e3]; rfl, rfl, rfl⟩⟩
def tupleP (p : P) : Option U := (seqP p).map fun ps => .fz (.tup ps)
def listP (p : P) : Option U := (seqP p).map .own
def Tuple_ : Op1 := ⟨oTuple, tupleP, fun g F p x u hF h1 e => by
  simp only [tupleP, Option.map_eq_some_iff] at e
  obtain ⟨ps, e, rfl⟩ := e
  obtain ⟨ds, e1, e2⟩ := seq_fr h1 e
  unfold oTuple
  rw [e1]
  exact made_fz ⟨_, rfl, e2⟩⟩
def List_ : Op1 := ⟨oList, listP, fun g F p x u hF h1 e => by
  simp only [listP, Option.map_eq_some_iff] at e
  obtain ⟨ps, e, rfl⟩ := e
  obtain ⟨ds, e1, e2⟩ := seq_fr h1 e
  unfold oList
  rw [e1]
  exact made_lst e2⟩
theorem frs_strs {g : G} {F : Fz} : ∀ xs : List (List Char), frs g F (xs.map .str) (xs.map .str)
  | [] => rfl
  | c :: s => ⟨_, _, rfl, rfl, frs_strs s⟩
def sortedP : P → Option U
  | .lst ps => match allSP ps with
    | some ss => some (.own ((sortS ss).map .str))
    | none => (allIP ps).map fun is => .own ((sortI is).map .int)
  | _ => none
theorem allI_noS {ds : List D} {is : List Int} (h : allI ds = some is) : allS ds = none ∨ ds = [] := by
  cases ds with
  | nil => exact .inr rfl
  | cons d r => cases d <;> first | (cases h; done) | exact .inl rfl
def Sorted : Op1 := ⟨oSorted, sortedP, fun g F p x u hF h1 e => by
  cases p with
  | lst ps =>
    obtain ⟨r, ds, rfl, hr, h⟩ := d_lst h1
    simp only [sortedP] at e
    unfold oSorted
    rw [lstOf_lst hr, Option.bind_some]
    split at e
    · rename_i ss hs
      cases e
      rw [allS_fr h hs]
      exact made_lst (frs_strs _)
    · rename_i hn
      rw [Option.map_eq_some_iff] at e
      obtain ⟨is, e, rfl⟩ := e
      have hi := allI_fr h e
      rcases allI_noS hi with z | z
      · rw [z, hi]; exact made_lst (frs_ints id _)
      · subst z
        have : ps = [] := List.eq_nil_of_length_eq_zero (frs_len h).symm
        subst this
        cases hn
  | _ => cases e⟩
def sortSetP (p : P) : Option U := ((seqP p).bind allSP).bind fun ss => if ss.length < 4000 then some (.own ((sortS (ddS ss)).map .str)) else none
def SortSet : Op1 := ⟨oSortSet, sortSetP, fun g F p x u hF h1 e => by
  simp only [sortSetP, Option.bind_eq_some_iff] at e
  obtain ⟨ss, ⟨ps, e1, e2⟩, e3⟩ := e
  obtain ⟨ds, e4, e5⟩ := seq_fr h1 e1
  split at e3
  · rename_i hl
    cases e3
    unfold oSortSet
    rw [e4, Option.bind_some, allS_fr e5 e2, Option.bind_some, if_pos hl]
    exact made_lst (frs_strs _)
  · cases e3⟩
/-! ### the start -/
/-- a law that holds over trees holds over the store -/
theorem law_start (f : Fn) (h : ∀ is : List Int, ∃ outs, f.v [.fz (.scr (is.map .int))] = .ok (.fz (.bl true)) outs) (is : List Int) : wp (f.m [.ref 0] [.frz (is.map .int)]) fun v _ => v = .bl true := by
  obtain ⟨outs, e⟩ := h is
  have := f.ok [.ref 0] [.fz (.scr (is.map .int))] [.frz (is.map .int)] (· = 0) (fun _ => []) ⟨rfl, fun i u hu => ?_, fun _ h => by cases h⟩ ⟨fun a ha => by rw [ha]; simp, List.nodup_nil, fun _ => List.nodup_nil, fun _ _ _ h => (by cases h), fun _ _ h => (by cases h), fun a ha => ?_, fun a ha => ?_⟩
  · rw [e] at this
    obtain ⟨d, g', F', As', B, e1, e2, _⟩ := this
    rw [e1, wp_ok]
    exact e2.1
  · cases i with
    | zero => cases hu; exact ⟨_, rfl, ⟨0, _, rfl, rfl, rfl, frs_ints id is⟩, rfl⟩
    | succ i => simp at hu
  · rcases ha with ha | ⟨_, ha⟩ <;> cases ha
  · rcases ha with ha | ⟨_, ha⟩ <;> cases ha
end Py
end

section
set_option autoImplicit false
set_option linter.all false
/-! Reasoning over trees: weakest preconditions as rewriting. -/
namespace Py
def wV {α : Type} (r : VR α) (Q : α → VEnv → Prop) (Z : VX → VEnv → Prop) : Prop := match r with | .ok a σ => Q a σ | .exc x σ => Z x σ | .bad => False
structure Kv where
  nx : VEnv → Prop
  rt : U → VEnv → Prop
  bk : VEnv → Prop
  ct : VEnv → Prop
  ex : VX → VEnv → Prop
def wS (r : VS) (k : Kv) : Prop := match r with | .next σ => k.nx σ | .ret u σ => k.rt u σ | .brk σ => k.bk σ | .cont σ => k.ct σ | .exc x σ => k.ex x σ | .bad => False
def wF (r : VF) (Q : U → VEnv → Prop) (Z : VX → VEnv → Prop) : Prop := match r with | .ok u o => Q u o | .exc x o => Z x o | .bad => False
section
variable {α β : Type} {Cx : Ctx} {Q : α → VEnv → Prop} {QX : X → VEnv → Prop} {QB : Bool → VEnv → Prop} {QU : U → VEnv → Prop} {Z : VX → VEnv → Prop} {σ : VEnv} {k : Kv}
@[simp] theorem wV_ok (a : α) : wV (.ok a σ) Q Z = Q a σ := rfl
@[simp] theorem wV_exc (x : VX) : wV (.exc x σ) Q Z = Z x σ := rfl
@[simp] theorem wV_bad : wV (.bad : VR α) Q Z = False := rfl
@[simp] theorem wV_bind (r : VR β) (f : β → VEnv → VR α) : wV (r.bind f) Q Z = wV r (fun a σ => wV (f a σ) Q Z) Z := by cases r <;> rfl
@[simp] theorem wV_ite (c : Prop) [Decidable c] (x y : VR α) : wV (if c then x else y) Q Z = if c then wV x Q Z else wV y Q Z := by split <;> rfl
@[simp] theorem wS_next : wS (.next σ) k = k.nx σ := rfl
@[simp] theorem wS_ret (u : U) : wS (.ret u σ) k = k.rt u σ := rfl
@[simp] theorem wS_brk : wS (.brk σ) k = k.bk σ := rfl
@[simp] theorem wS_cont : wS (.cont σ) k = k.ct σ := rfl
@[simp] theorem wS_exc (x : VX) : wS (.exc x σ) k = k.ex x σ := rfl
@[simp] theorem wS_bad : wS .bad k = False := rfl
@[simp] theorem wS_ite (c : Prop) [Decidable c] (x y : VS) : wS (if c then x else y) k = if c then wS x k else wS y k := by split <;> rfl
@[simp] theorem wS_onV (r : VR β) (f : β → VEnv → VS) : wS (onV r f) k = wV r (fun a σ => wS (f a σ) k) k.ex := by cases r <;> rfl
@[simp] theorem wF_ok (u : U) (o : VEnv) : wF (.ok u o) QU Z = QU u o := rfl
@[simp] theorem wF_exc (x : VX) (o : VEnv) : wF (.exc x o) QU Z = Z x o := rfl
@[simp] theorem wF_bad : wF .bad QU Z = False := rfl
theorem wV_imp {r : VR α} {Q' : α → VEnv → Prop} {Z' : VX → VEnv → Prop} (h : wV r Q Z) (i : ∀ a σ, Q a σ → Q' a σ) (j : ∀ x σ, Z x σ → Z' x σ) : wV r Q' Z' := by cases r <;> first | exact i _ _ h | exact j _ _ h | exact h
theorem wS_imp {r : VS} {k' : Kv} (h : wS r k) (h1 : ∀ σ, k.nx σ → k'.nx σ) (h2 : ∀ u σ, k.rt u σ → k'.rt u σ) (h3 : ∀ σ, k.bk σ → k'.bk σ) (h4 : ∀ σ, k.ct σ → k'.ct σ) (h5 : ∀ x σ, k.ex x σ → k'.ex x σ) : wS r k' := by
  cases r <;> first | exact h1 _ h | exact h2 _ _ h | exact h3 _ h | exact h4 _ h | exact h5 _ _ h | exact h
theorem wF_imp {r : VF} {Q' : U → VEnv → Prop} {Z' : VX → VEnv → Prop} (h : wF r QU Z) (i : ∀ a σ, QU a σ → Q' a σ) (j : ∀ x σ, Z x σ → Z' x σ) : wF r Q' Z' := by cases r <;> first | exact i _ _ h | exact j _ _ h | exact h
/-- a call's outcome, told exactly -/
theorem vf_ok {r : VF} {u : U} {o : VEnv} (h : wF r (fun u' o' => u' = u ∧ o' = o) fun _ _ => False) : r = .ok u o := by
  cases r with
  | ok u' o' => obtain ⟨rfl, rfl⟩ := h; rfl
  | exc _ _ => exact h.elim
  | bad => exact h.elim
theorem vf_exc {r : VF} {u : VX} {o : VEnv} (h : wF r (fun _ _ => False) fun u' o' => u' = u ∧ o' = o) : r = .exc u o := by
  cases r with
  | exc u' o' => obtain ⟨rfl, rfl⟩ := h; rfl
  | ok _ _ => exact h.elim
  | bad => exact h.elim
theorem vf_of {r : VF} {u : U} {o : VEnv} (h : r = .ok u o) (q : QU u o) : wF r QU Z := by rw [h]; exact q
theorem vf_ex {r : VF} (h : wF r QU fun _ _ => False) : ∃ u o, r = .ok u o ∧ QU u o := by
  cases r with
  | ok u' o' => exact ⟨u', o', rfl, h⟩
  | exc _ _ => exact h.elim
  | bad => exact h.elim
theorem vr_ok {r : VR α} {a : α} {σ : VEnv} (h : wV r (fun a' σ' => a' = a ∧ σ' = σ) fun _ _ => False) : r = .ok a σ := by
  cases r with
  | ok u' o' => obtain ⟨rfl, rfl⟩ := h; rfl
  | exc _ _ => exact h.elim
  | bad => exact h.elim
/-! ### names -/
def rdU (o : Option (Option U)) (i : Nat) (σ : VEnv) : VR X := match o with
  | some (some (.fz p)) => .ok (.u (.fz p)) σ
  | some (some u) => .ok (.u (.fz u.toP)) (σ.set i (some (.fz u.toP)))
  | _ => .bad
@[simp] theorem rdU_fz (p : P) (i : Nat) : rdU (some (some (.fz p))) i σ = .ok (.u (.fz p)) σ := rfl
@[simp] theorem rdU_own (ps : List P) (i : Nat) : rdU (some (some (.own ps))) i σ = .ok (.u (.fz (.lst ps))) (σ.set i (some (.fz (.lst ps)))) := rfl
@[simp] theorem rdU_nst (ps : List U) (i : Nat) : rdU (some (some (.nst ps))) i σ = .ok (.u (.fz (.lst (ps.map U.toP)))) (σ.set i (some (.fz (.lst (ps.map U.toP))))) := by simp [rdU]
@[simp] theorem rdU_tup (ps : List U) (i : Nat) : rdU (some (some (.tup ps))) i σ = .ok (.u (.fz (.tup (ps.map U.toP)))) (σ.set i (some (.fz (.tup (ps.map U.toP))))) := by simp [rdU]
@[simp] theorem v_var (i : Nat) : (E.var (Cx := Cx) i).v σ = rdU σ[i]? i σ := rfl
def mvU (o : Option (Option U)) (i : Nat) (σ : VEnv) : VR X := match o with | some (some u) => .ok (.u u) (σ.set i none) | _ => .bad
@[simp] theorem mvU_some (u : U) (i : Nat) : mvU (some (some u)) i σ = .ok (.u u) (σ.set i none) := rfl
@[simp] theorem v_mov (i : Nat) : (E.mov (Cx := Cx) i).v σ = mvU σ[i]? i σ := rfl
def lnU (o : Option (Option U)) (i : Nat) (σ : VEnv) : VR X := match o with | some (some _) => .ok (.ln i) σ | _ => .bad
@[simp] theorem lnU_some (u : U) (i : Nat) : lnU (some (some u)) i σ = .ok (.ln i) σ := rfl
@[simp] theorem v_bor (i : Nat) : (E.bor (Cx := Cx) i).v σ = lnU σ[i]? i σ := rfl
@[simp] theorem v_non : (E.non (Cx := Cx)).v σ = .ok (.u (.fz .non)) σ := rfl
@[simp] theorem v_bl (b : Bool) : (E.bl (Cx := Cx) b).v σ = .ok (.u (.fz (.bl b))) σ := rfl
@[simp] theorem v_int (b : Int) : (E.int (Cx := Cx) b).v σ = .ok (.u (.fz (.int b))) σ := rfl
@[simp] theorem v_str (b : List Char) : (E.str (Cx := Cx) b).v σ = .ok (.u (.fz (.str b))) σ := rfl
/-! ### operations -/
@[simp] theorem v_op2 (f : Op2) (a b : E Cx) : (E.op2 f a b).v σ = (a.v σ).bind fun x σ1 => (b.v σ1).bind fun y σ2 => ap2 f.v x y σ2 := rfl
@[simp] theorem v_op1 (f : Op1) (a : E Cx) : (E.op1 f a).v σ = (a.v σ).bind fun x σ1 => ap1 f.v x σ1 := rfl
def slU : Option (Option U) → Option P
  | some (some u) => some u.toP
  | _ => none
def slS : Option (Option U) → Bool
  | some (some (.fz _)) => true
  | some (some (.own _)) => true
  | _ => false
/-- an operation's outcome -/
def outU (o : Option U) (s : Bool) (σ : VEnv) : VR X := match o with | some u => if s || u.nr then .ok (.u u) σ else .bad | none => .bad
@[simp] theorem ap2_uu (f : P → P → Option U) (u w : U) : ap2 f (.u u) (.u w) σ = outU (f u.toP w.toP) true σ := by
  simp only [ap2, res, outU, shal]
  cases f u.toP w.toP <;> simp
@[simp] theorem ap1_u (f : P → Option U) (u : U) : ap1 f (.u u) σ = outU (f u.toP) true σ := by
  simp only [ap1, res, outU, shal]
  cases f u.toP <;> simp
@[simp] theorem slU_some (u : U) : slU (some (some u)) = some u.toP := rfl
@[simp] theorem slS_fz (p : P) : slS (some (some (.fz p))) = true := rfl
@[simp] theorem slS_own (p : List P) : slS (some (some (.own p))) = true := rfl
@[simp] theorem slS_nst (p : List U) : slS (some (some (.nst p))) = false := rfl
@[simp] theorem slS_tup (p : List U) : slS (some (some (.tup p))) = false := rfl
theorem res_ln (i : Nat) : res σ (.ln i) = slU σ[i]? := rfl
theorem shal_ln (i : Nat) : shal σ (.ln i) = slS σ[i]? := rfl
@[simp] theorem ap2_lu (f : P → P → Option U) (i : Nat) (w : U) : ap2 f (.ln i) (.u w) σ = outU ((slU σ[i]?).bind fun p => f p w.toP) (slS σ[i]?) σ := by
  simp only [ap2, res_ln, shal_ln]
  cases slU σ[i]? with
  | none => rfl
  | some p => simp only [res, Option.bind_some, outU, shal, Bool.and_true] <;> rfl
@[simp] theorem ap2_ul (f : P → P → Option U) (i : Nat) (w : U) : ap2 f (.u w) (.ln i) σ = outU ((slU σ[i]?).bind fun p => f w.toP p) (slS σ[i]?) σ := by
  simp only [ap2, res_ln, shal_ln]
  cases slU σ[i]? with
  | none => rfl
  | some p => simp only [res, Option.bind_some, outU, shal, Bool.true_and] <;> rfl
@[simp] theorem ap2_ll (f : P → P → Option U) (i j : Nat) : ap2 f (.ln i) (.ln j) σ = outU ((slU σ[i]?).bind fun p => (slU σ[j]?).bind fun q => f p q) (slS σ[i]? && slS σ[j]?) σ := by
  simp only [ap2, res_ln, shal_ln]
  cases slU σ[i]? with
  | none => rfl
  | some p =>
    cases slU σ[j]? with
    | none => rfl
    | some q => simp only [Option.bind_some, outU]; rfl
@[simp] theorem ap1_l (f : P → Option U) (i : Nat) : ap1 f (.ln i) σ = outU ((slU σ[i]?).bind f) (slS σ[i]?) σ := by
  simp only [ap1, res_ln, shal_ln]
  cases slU σ[i]? with
  | none => rfl
  | some p => simp only [Option.bind_some, outU]; rfl
@[simp] theorem outU_some (u : U) : outU (some u) true σ = .ok (.u u) σ := by simp [outU]
@[simp] theorem outU_nr (u : U) (s : Bool) : outU (some u) s σ = if s || u.nr then .ok (.u u) σ else .bad := rfl
@[simp] theorem outU_none (s : Bool) : outU none s σ = .bad := rfl
@[simp] theorem outU_ite (c : Prop) [Decidable c] (o o' : Option U) (s : Bool) : outU (if c then o else o') s σ = if c then outU o s σ else outU o' s σ := by split <;> rfl
@[simp] theorem fz_nr (p : P) : (U.fz p).nr = p.flat := by simp [U.nr]
@[simp] theorem flat_int (i : Int) : (P.int i).flat = true := by simp [P.flat]
@[simp] theorem flat_str (i : List Char) : (P.str i).flat = true := by simp [P.flat]
@[simp] theorem flat_bl (i : Bool) : (P.bl i).flat = true := by simp [P.flat]
@[simp] theorem flat_non : P.non.flat = true := by simp [P.flat]
theorem flats_all : ∀ ps : List P, P.flat.flats ps = ps.all P.flat
  | [] => rfl
  | p :: r => by simp [P.flat.flats, flats_all r]
@[simp] theorem flat_tup (ps : List P) : (P.tup ps).flat = ps.all P.flat := by simp [P.flat, flats_all]
@[simp] theorem flat_lst (ps : List P) : (P.lst ps).flat = false := by simp [P.flat]
@[simp] theorem own_nr (ps : List P) : (U.own ps).nr = ps.all P.flat := by simp [U.nr, flats_all]
theorem nrs_all : ∀ ps : List U, U.nr.nrs ps = ps.all U.nr
  | [] => rfl
  | p :: r => by simp [U.nr.nrs, nrs_all r]
@[simp] theorem tup_nr (ps : List U) : (U.tup ps).nr = ps.all U.nr := by simp [U.nr, nrs_all]
@[simp] theorem nst_nr (ps : List U) : (U.nst ps).nr = ps.all U.nr := by simp [U.nr, nrs_all]
@[simp] theorem ple_int (n : Nat) (i : Int) : (P.int i).le n = true := by cases n <;> simp [P.le]
@[simp] theorem ple_str (n : Nat) (i : List Char) : (P.str i).le n = true := by cases n <;> simp [P.le]
@[simp] theorem ple_bl (n : Nat) (i : Bool) : (P.bl i).le n = true := by cases n <;> simp [P.le]
@[simp] theorem ple_non (n : Nat) : P.non.le n = true := by cases n <;> simp [P.le]
theorem les_all : ∀ (n : Nat) (ps : List P), P.les n ps = ps.all (P.le n)
  | _, [] => rfl
  | n, p :: r => by simp [P.les, les_all n r]
@[simp] theorem ple_tup (n : Nat) (ps : List P) : (P.tup ps).le (n + 1) = ps.all (P.le n) := by simp [P.le, les_all]
@[simp] theorem ple_lst (n : Nat) (ps : List P) : (P.lst ps).le (n + 1) = ps.all (P.le n) := by simp [P.le, les_all]
@[simp] theorem ple_tup0 (n : Nat) : (P.tup []).le (n + 1) = true := by simp
@[simp] theorem eqv_int (i j : Int) : P.eqv (.int i) (.int j) = (i == j) := by simp [P.eqv]
@[simp] theorem eqv_str (i j : List Char) : P.eqv (.str i) (.str j) = (i == j) := by simp [P.eqv]
@[simp] theorem eqv_bl (i j : Bool) : P.eqv (.bl i) (.bl j) = (i == j) := by simp [P.eqv]
@[simp] theorem v_not (a : E Cx) : (E.not a).v σ = (a.v σ).bind fun x σ1 => (ofV (xB x) σ1).bind fun c σ2 => .ok (.u (.fz (.bl (!c)))) σ2 := rfl
@[simp] theorem v_and (a b : E Cx) : (E.and a b).v σ = (a.v σ).bind fun x σ1 => (ofV (xB x) σ1).bind fun c σ2 => if c then b.v σ2 else .ok (.u (.fz (.bl false))) σ2 := rfl
@[simp] theorem v_or (a b : E Cx) : (E.or a b).v σ = (a.v σ).bind fun x σ1 => (ofV (xB x) σ1).bind fun c σ2 => if c then .ok (.u (.fz (.bl true))) σ2 else b.v σ2 := rfl
@[simp] theorem v_ite (t : Te Cx) (a b : E Cx) : (E.ite t a b).v σ = (t.v σ).bind fun c σ1 => if c then a.v σ1 else b.v σ1 := rfl
def isBl : VR X → Option Bool
  | .ok (.u (.fz (.bl k))) _ => some k
  | _ => none
@[simp] theorem isBl_ok (k : Bool) : isBl (.ok (.u (.fz (.bl k))) σ) = some k := rfl
theorem chain_step (r : VR X) (f : Bool → VR X) : (match r with | .ok (.u (.fz (.bl k))) _ => f k | _ => .bad) = match isBl r with | some k => f k | none => .bad := by
  cases r with
  | ok x σ => cases x with
    | u u => cases u with
      | fz p => cases p <;> rfl
      | _ => rfl
    | ln _ => rfl
  | _ => rfl
@[simp] theorem v_chain (f f' : OpB) (a b c : E Cx) : (E.chain f f' a b c).v σ = (a.v σ).bind fun x σ1 => (b.v σ1).bind fun y σ2 => match isBl (ap2 f.v x y σ2) with
  | some k => if k then (c.v σ2).bind fun z σ3 => ap2 f'.v y z σ3 else .ok (.u (.fz (.bl false))) σ2
  | none => .bad := by
  show (a.v σ).bind _ = _
  congr; funext x σ1; congr; funext y σ2
  exact chain_step _ _
@[simp] theorem v_tval (a : E Cx) : (Te.val a).v σ = (a.v σ).bind fun x σ1 => ofV (xB x) σ1 := rfl
def truX (x : X) (σ : VEnv) : Option Bool := (res σ x).bind truP
@[simp] theorem v_ttru (a : E Cx) : (Te.tru a).v σ = (a.v σ).bind fun x σ1 => ofV (truX x σ1) σ1 := rfl
@[simp] theorem truX_u (u : U) : truX (.u u) σ = truP u.toP := rfl
@[simp] theorem truX_ln (i : Nat) : truX (.ln i) σ = (slU σ[i]?).bind truP := by unfold truX; rw [res_ln]
@[simp] theorem tru_non : truP .non = some false := rfl
@[simp] theorem tru_bl (b : Bool) : truP (.bl b) = some b := rfl
@[simp] theorem tru_int (b : Int) : truP (.int b) = some (b != 0) := rfl
@[simp] theorem tru_tup (ps : List P) : truP (.tup ps) = some (!ps.isEmpty) := rfl
@[simp] theorem tru_lst (ps : List P) : truP (.lst ps) = some (!ps.isEmpty) := rfl
@[simp] theorem tru_str (ps : List Char) : truP (.str ps) = if ps.length ≤ LINE then some (ps.length != 0) else none := rfl
@[simp] theorem v_tand (a b : Te Cx) : (Te.and a b).v σ = (a.v σ).bind fun c σ1 => if c then b.v σ1 else .ok false σ1 := rfl
@[simp] theorem v_tor (a b : Te Cx) : (Te.or a b).v σ = (a.v σ).bind fun c σ1 => if c then .ok true σ1 else b.v σ1 := rfl
@[simp] theorem v_tnot (a : Te Cx) : (Te.not a).v σ = (a.v σ).bind fun c σ1 => .ok (!c) σ1 := rfl
@[simp] theorem v_tyes : (Te.yes (Cx := Cx)).v σ = .ok true σ := rfl
@[simp] theorem wV_ofV (o : Option α) : wV (ofV o σ) Q Z ↔ ∃ a, o = some a ∧ Q a σ := by
  cases o with
  | none => exact ⟨fun h => h.elim, fun ⟨_, h, _⟩ => by cases h⟩
  | some a => exact ⟨fun h => ⟨a, rfl, h⟩, fun ⟨_, h, q⟩ => by cases h; exact q⟩
/-! ### tuples, lists, slices -/
@[simp] theorem v_nil : (arNil (Cx := Cx)).v σ = .ok [] σ := rfl
@[simp] theorem v_cons (a : E Cx) (as : Ar Cx) : (arCons a as).v σ = (a.v σ).bind fun x σ1 => (as.v σ1).bind fun xs σ2 => .ok (x :: xs) σ2 := rfl
def tupX (xs : List X) (σ : VEnv) : VR X := match toUs xs with | some us => if us.length ≤ LINE then .ok (.u (mkTup us)) σ else .bad | none => .bad
def lstX (xs : List X) (σ : VEnv) : VR X := match toUs xs with | some us => if us.length ≤ LINE then .ok (.u (mkLst us)) σ else .bad | none => .bad
@[simp] theorem v_tup (as : Ar Cx) : (E.tup as).v σ = (as.v σ).bind fun xs σ1 => tupX xs σ1 := rfl
@[simp] theorem v_lst (as : Ar Cx) : (E.lst as).v σ = (as.v σ).bind fun xs σ1 => lstX xs σ1 := rfl
@[simp] theorem toUs_nil : toUs [] = some [] := rfl
@[simp] theorem toUs_cons (u : U) (r : List X) : toUs (.u u :: r) = (toUs r).map (u :: ·) := rfl
@[simp] theorem allFz_nil : allFz [] = some [] := rfl
@[simp] theorem allFz_fz (p : P) (r : List U) : allFz (.fz p :: r) = (allFz r).map (p :: ·) := rfl
@[simp] theorem allFz_own (p : List P) (r : List U) : allFz (.own p :: r) = none := rfl
@[simp] theorem allFz_nst (p : List U) (r : List U) : allFz (.nst p :: r) = none := rfl
@[simp] theorem allFz_tup (p : List U) (r : List U) : allFz (.tup p :: r) = none := rfl
theorem allFz_map : ∀ ps : List P, allFz (ps.map .fz) = some ps
  | [] => rfl
  | p :: r => by simp [allFz_map r]
theorem mkLst_map (ps : List P) : mkLst (ps.map .fz) = .own ps := by simp [mkLst, allFz_map]
@[simp] theorem tupX_eq (xs : List X) : tupX xs σ = match toUs xs with | some us => if us.length ≤ LINE then .ok (.u (mkTup us)) σ else .bad | none => .bad := rfl
@[simp] theorem lstX_eq (xs : List X) : lstX xs σ = match toUs xs with | some us => if us.length ≤ LINE then .ok (.u (mkLst us)) σ else .bad | none => .bad := rfl
@[simp] theorem mkTup_eq (us : List U) : mkTup us = match allFz us with | some ps => .fz (.tup ps) | none => .tup us := rfl
@[simp] theorem v_sl (a : E Cx) (lo hi : Ix Cx) : (E.sl a lo hi).v σ = (a.v σ).bind fun x σ1 => (lo.v σ1).bind fun l σ2 => (hi.v σ2).bind fun h σ3 => ap1 (slP l h) x σ3 := rfl
@[simp] theorem v_ixno : (Ix.no (Cx := Cx)).v σ = .ok none σ := rfl
@[simp] theorem v_ixof (a : E Cx) : (Ix.of a).v σ = (a.v σ).bind fun x σ1 => (ofV (xI x) σ1).bind fun i σ2 => .ok (some i) σ2 := rfl
@[simp] theorem slP_str (lo hi : Option Int) (s : List Char) : slP lo hi (.str s) = if s.length ≤ LINE then some (.fz (.str (cut s lo hi))) else none := rfl
@[simp] theorem slP_tup (lo hi : Option Int) (s : List P) : slP lo hi (.tup s) = some (.fz (.tup (cut s lo hi))) := rfl
@[simp] theorem slP_lst (lo hi : Option Int) (s : List P) : slP lo hi (.lst s) = some (.own (cut s lo hi)) := rfl
@[simp] theorem slP_scr (lo hi : Option Int) (s : List P) : slP lo hi (.scr s) = some (.own (cut s lo hi)) := rfl
/-! ### what is walked -/
@[simp] theorem v_any (a : E Cx) : (It.any a).v σ = (a.v σ).bind fun x σ1 => ofV ((xU x).bind fun u => itemsP u.toP) σ1 := rfl
@[simp] theorem v_enum (a : E Cx) : (It.enum a).v σ = (a.v σ).bind fun x σ1 => ofV ((xU x).bind fun u => if noStr u.toP then (itemsP u.toP).map (prsP 0) else none) σ1 := rfl
@[simp] theorem v_rng1 (a : E Cx) : (It.rng1 a).v σ = (a.v σ).bind fun x σ1 => (ofV (xI x) σ1).bind fun j σ2 => if -SMALL ≤ j ∧ j < SMALL then .ok (rngP 0 j.toNat) σ2 else .bad := rfl
@[simp] theorem v_rng2 (a b : E Cx) : (It.rng2 a b).v σ = (a.v σ).bind fun x σ1 => (b.v σ1).bind fun y σ2 => (ofV (xI x) σ2).bind fun i σ3 => (ofV (xI y) σ3).bind fun j σ4 => if (-SMALL ≤ i ∧ i < SMALL) ∧ -SMALL ≤ j ∧ j < SMALL then .ok (rngP i (j - i).toNat) σ4 else .bad := rfl
@[simp] theorem items_tup (ps : List P) : itemsP (.tup ps) = some ps := rfl
@[simp] theorem items_lst (ps : List P) : itemsP (.lst ps) = some ps := rfl
@[simp] theorem items_scr (ps : List P) : itemsP (.scr ps) = some ps := rfl
@[simp] theorem items_str (s : List Char) : itemsP (.str s) = some (s.map fun c => .str [c]) := rfl
@[simp] theorem noStr_tup (ps : List P) : noStr (.tup ps) = true := rfl
@[simp] theorem noStr_lst (ps : List P) : noStr (.lst ps) = true := rfl
/-! ### targets -/
@[simp] theorem v_name (i : Nat) (u : U) : (Tgt.name i).v u σ = some (σ.set i (some u)) := rfl
@[simp] theorem v_ttup (t : Tgts) (u : U) : (Tgt.tup t).v u σ = u.parts.bind fun us => t.v us σ := rfl
@[simp] theorem v_tnil : Tgts.nil.v [] σ = some σ := rfl
@[simp] theorem v_tcons (t : Tgt) (r : Tgts) (u : U) (us : List U) : (Tgts.cons t r).v (u :: us) σ = (t.v u σ).bind (r.v us) := rfl
@[simp] theorem parts_fz (ps : List P) : (U.fz (.tup ps)).parts = some (ps.map .fz) := rfl
@[simp] theorem parts_tup (us : List U) : (U.tup us).parts = some us := rfl
@[simp] theorem own_name (i : Nat) : (Tgt.name i).own = [i] := rfl
@[simp] theorem own_ttup (t : Tgts) : (Tgt.tup t).own = t.own := rfl
@[simp] theorem own_tcons (t : Tgt) (r : Tgts) : (Tgts.cons t r).own = t.own ++ r.own := rfl
@[simp] theorem own_tnil : Tgts.nil.own = [] := rfl
/-! ### comprehensions -/
@[simp] theorem v_lc (w : It Cx) (t : Tgt) (c : Te []) (e : E []) : (E.lc w t c e).v σ = (w.v σ).bind fun ps σ1 => (lcGoV t.v c.v e.v t.own ps (wipeV σ1 t.own) []).bind fun us σ2 => .ok (.u (mkLst us)) (wipeV σ2 t.own) := rfl
@[simp] theorem wipe_nil : wipeV σ [] = σ := rfl
@[simp] theorem wipe_cons (v : Nat) (vs : List Nat) : wipeV σ (v :: vs) = (wipeV σ vs).set v none := rfl
/-- a comprehension that only looks -/
theorem lc_map {t : U → VEnv → Option VEnv} {c : VT} {e : VM} {own : List Nat} {γ : Type} (f : γ → P) (cf : γ → Bool) (ef : γ → P) (xs : List γ) (hl : xs.length < LINE) (hs : ∀ x, x ∈ xs → ∃ σ1, t (.fz (f x)) σ = some σ1 ∧ c σ1 = .ok (cf x) σ1 ∧ (cf x = true → e σ1 = .ok (.u (.fz (ef x))) σ1) ∧ wipeV σ1 own = σ) :
    lcGoV t c e own (xs.map f) σ [] = .ok (((xs.filter cf).map ef).map .fz) σ := by
  have key : ∀ (ys : List γ) (acc : List U), acc.length + ys.length < LINE → (∀ x, x ∈ ys → ∃ σ1, t (.fz (f x)) σ = some σ1 ∧ c σ1 = .ok (cf x) σ1 ∧ (cf x = true → e σ1 = .ok (.u (.fz (ef x))) σ1) ∧ wipeV σ1 own = σ) → lcGoV t c e own (ys.map f) σ acc = .ok (acc ++ ((ys.filter cf).map ef).map .fz) σ := by
    intro ys
    induction ys with
    | nil => intro acc _ _; simp [lcGoV]
    | cons y ys ih =>
      intro acc hl hs
      simp only [List.length_cons] at hl
      obtain ⟨σ1, h1, h2, h3, h4⟩ := hs y (by simp)
      simp only [List.map_cons, lcGoV, h1, h2]
      cases hc : cf y with
      | true =>
        simp only [h3 hc]
        rw [if_pos (by omega), h4, ih _ (by simp; omega) fun x hx => hs x (by simp [hx])]
        simp [hc]
      | false =>
        simp only
        rw [h4, ih _ (by omega) fun x hx => hs x (by simp [hx])]
        simp [hc]
  simpa using key xs [] (by simpa using hl) hs
/-- .. one whose items are lists of their own -/
theorem lc_mapU {t : U → VEnv → Option VEnv} {c : VT} {e : VM} {own : List Nat} {γ : Type} (f : γ → P) (ef : γ → U) (xs : List γ) (hl : xs.length < LINE) (hs : ∀ x, x ∈ xs → ∃ σ1, t (.fz (f x)) σ = some σ1 ∧ c σ1 = .ok true σ1 ∧ e σ1 = .ok (.u (ef x)) σ1 ∧ wipeV σ1 own = σ) :
    lcGoV t c e own (xs.map f) σ [] = .ok (xs.map ef) σ := by
  have key : ∀ (ys : List γ) (acc : List U), acc.length + ys.length < LINE → (∀ x, x ∈ ys → ∃ σ1, t (.fz (f x)) σ = some σ1 ∧ c σ1 = .ok true σ1 ∧ e σ1 = .ok (.u (ef x)) σ1 ∧ wipeV σ1 own = σ) → lcGoV t c e own (ys.map f) σ acc = .ok (acc ++ ys.map ef) σ := by
    intro ys
    induction ys with
    | nil => intro acc _ _; simp [lcGoV]
    | cons y ys ih =>
      intro acc hl hs
      simp only [List.length_cons] at hl
      obtain ⟨σ1, h1, h2, h3, h4⟩ := hs y (by simp)
      simp only [List.map_cons, lcGoV, h1, h2, h3]
      rw [if_pos (by omega), h4, ih _ (by simp; omega) fun x hx => hs x (by simp [hx])]
      simp
  simpa using key xs [] (by simpa using hl) hs
/-! ### calls -/
def callK (f : List U → VF) (ios : List Nat) (xs : List X) (σ : VEnv) : VR X := if (loans xs).Nodup then match argsU ios σ 0 xs with
  | some us => match f us with
    | .ok u outs => .ok (.u u) (back ios (u.nr && nrO outs) outs 0 xs σ)
    | .exc x outs => .exc x (back ios (nrX x && nrO outs) outs 0 xs σ)
    | .bad => .bad
  | none => .bad else .bad
@[simp] theorem v_call (f : Fn) (as : Ar Cx) : (E.call f as).v σ = (as.v σ).bind fun xs σ1 => callK f.v f.ios xs σ1 := rfl
@[simp] theorem wV_callK (f : List U → VF) (ios : List Nat) (xs : List X) : wV (callK f ios xs σ) QX Z ↔ (loans xs).Nodup ∧ ∃ us, argsU ios σ 0 xs = some us ∧ wF (f us) (fun u outs => QX (.u u) (back ios (u.nr && nrO outs) outs 0 xs σ)) fun x outs => Z x (back ios (nrX x && nrO outs) outs 0 xs σ) := by
  unfold callK
  by_cases h : (loans xs).Nodup
  · rw [if_pos h]
    cases ha : argsU ios σ 0 xs with
    | none => simp
    | some us =>
      dsimp only
      cases hf : f us <;> simp [h, hf]
  · rw [if_neg h]; simp [h]
@[simp] theorem loans_nil : loans [] = [] := rfl
@[simp] theorem loans_u (u : U) (r : List X) : loans (.u u :: r) = loans r := rfl
@[simp] theorem loans_l (i : Nat) (r : List X) : loans (.ln i :: r) = i :: loans r := rfl
@[simp] theorem argsU_nil (ios : List Nat) (k : Nat) : argsU ios σ k [] = some [] := rfl
@[simp] theorem argsU_cons (ios : List Nat) (k : Nat) (x : X) (r : List X) : argsU ios σ k (x :: r) = match argU (ios.contains k) σ x, argsU ios σ (k + 1) r with | some u, some us => some (u :: us) | _, _ => none := rfl
@[simp] theorem argU_u (io : Bool) (u : U) : argU io σ (.u u) = some (if io then u else .fz u.toP) := rfl
def lnA (io : Bool) : Option (Option U) → Option U
  | some (some u) => some (if io then u else .fz u.toP)
  | _ => none
@[simp] theorem argU_l (io : Bool) (i : Nat) : argU io σ (.ln i) = lnA io σ[i]? := rfl
@[simp] theorem lnA_some (io : Bool) (u : U) : lnA io (some (some u)) = some (if io then u else .fz u.toP) := rfl
@[simp] theorem back_nil (ios : List Nat) (nr : Bool) (outs : VEnv) (k : Nat) : back ios nr outs k [] σ = σ := rfl
@[simp] theorem back_u (ios : List Nat) (nr : Bool) (outs : VEnv) (k : Nat) (u : U) (r : List X) : back ios nr outs k (.u u :: r) σ = back ios nr outs (k + 1) r σ := rfl
/-- a slot that was lent, behind the call -/
def bk (io nr : Bool) (o : Option U) (i : Nat) (σ : VEnv) : VEnv := if io then σ.set i o else if nr then σ else match σ[i]? with | some (some u) => σ.set i (some (.fz u.toP)) | _ => σ
@[simp] theorem back_l (ios : List Nat) (nr : Bool) (outs : VEnv) (k i : Nat) (r : List X) : back ios nr outs k (.ln i :: r) σ = back ios nr outs (k + 1) r (bk (ios.contains k) nr (outs.getD k none) i σ) := rfl
@[simp] theorem bk_io (nr : Bool) (o : Option U) (i : Nat) : bk true nr o i σ = σ.set i o := rfl
@[simp] theorem bk_nr (o : Option U) (i : Nat) : bk false true o i σ = σ := rfl
@[simp] theorem bk_fz (o : Option U) (i : Nat) : bk false false o i σ = match σ[i]? with | some (some u) => σ.set i (some (.fz u.toP)) | _ => σ := rfl
@[simp] theorem nrO_nil : nrO [] = true := rfl
@[simp] theorem nrO_none (r : VEnv) : nrO (none :: r) = nrO r := rfl
@[simp] theorem nrO_some (u : U) (r : VEnv) : nrO (some u :: r) = (u.nr && nrO r) := rfl
/-! ### appending -/
@[simp] theorem isL_own (ps : List P) : isL (.own ps) = true := rfl
@[simp] theorem isL_nst (ps : List U) : isL (.nst ps) = true := rfl
def slL : Option (Option U) → Bool
  | some (some u) => isL u
  | _ => false
@[simp] theorem slL_some (u : U) : slL (some (some u)) = isL u := rfl
def apX (o : Option (Option U)) (x : X) (i : Nat) (σ : VEnv) : VR X := match xU x, o with
  | some y, some (some u1) => match appU u1 y with | some u2 => .ok (.u (.fz .non)) (σ.set i (some u2)) | none => .bad
  | _, _ => .bad
@[simp] theorem v_app (i : Nat) (e : E Cx) : (E.app i e).v σ = if slL σ[i]? then (e.v σ).bind fun x σ1 => apX σ1[i]? x i σ1 else .bad := by
  show appV i e.v σ = _
  unfold appV
  cases h : σ[i]? with
  | none => rfl
  | some o => cases o with
    | none => rfl
    | some u => cases hu : isL u <;> simp [slL, hu] <;> rfl
@[simp] theorem apX_u (u1 y : U) (i : Nat) : apX (some (some u1)) (.u y) i σ = match appU u1 y with | some u2 => .ok (.u (.fz .non)) (σ.set i (some u2)) | none => .bad := rfl
@[simp] theorem app_of (ps : List P) (p : P) : appU (.own ps) (.fz p) = if ps.length < LINE then some (.own (ps ++ [p])) else none := rfl
@[simp] theorem app_no (us : List U) (u : U) : appU (.nst us) u = if us.length < LINE then some (.nst (us ++ [u])) else none := rfl
@[simp] theorem app_oo (ps qs : List P) : appU (.own ps) (.own qs) = if ps.length < LINE then some (.nst (ps.map .fz ++ [.own qs])) else none := rfl
/-! ### statements -/
/-- what follows, not looked into by simp -/
def lzV (b : VEnv → VS) (σ : VEnv) (k : Kv) : Prop := wS (b σ) k
@[simp] theorem s_seq (a b : St Cx) : wS ((St.seq a b).v σ) k = wS (a.v σ) { k with nx := fun σ => lzV b.v σ k } := by
  show wS (seqV a.v b.v σ) k = _
  unfold seqV
  cases a.v σ <;> rfl
@[simp] theorem s_nil : (St.nil (Cx := Cx)).v σ = .next σ := rfl
@[simp] theorem s_brk : (St.brk (Cx := Cx)).v σ = .brk σ := rfl
@[simp] theorem sv_cont : (St.cont (Cx := Cx)).v σ = .cont σ := rfl
@[simp] theorem sv_expr (e : E Cx) : (St.expr e).v σ = onV (e.v σ) fun _ σ1 => .next σ1 := rfl
def rtX (x : X) (σ : VEnv) : VS := match xU x with | some u => .ret u σ | none => .bad
@[simp] theorem rtX_u (u : U) : rtX (.u u) σ = .ret u σ := rfl
@[simp] theorem sv_ret (e : E Cx) : (St.ret e).v σ = onV (e.v σ) fun x σ1 => rtX x σ1 := rfl
@[simp] theorem sv_retN : (St.retN (Cx := Cx)).v σ = .ret (.fz .non) σ := rfl
@[simp] theorem s_ite (t : Te Cx) (a b : St Cx) : (St.ite t a b).v σ = onV (t.v σ) fun c σ1 => if c then a.v σ1 else b.v σ1 := rfl
def tgX (t : U → VEnv → Option VEnv) (x : X) (σ : VEnv) : VS := match xU x with | some u => (match t u σ with | some σ2 => .next σ2 | none => .bad) | none => .bad
@[simp] theorem sv_asg (e : E Cx) (t : Tgt) (hp : ∀ q, q ∈ Cx → q.i ∉ t.own) : (St.asg' e t hp).v σ = onV (e.v σ) fun x σ1 => tgX t.v x σ1 := rfl
@[simp] theorem tgX_u (t : U → VEnv → Option VEnv) (u : U) : tgX t (.u u) σ = match t u σ with | some σ2 => .next σ2 | none => .bad := rfl
def stX (o : Option (Option U)) (j : Option Int) (y : U) (k : Nat) (σ : VEnv) : VS := match j, o with
    | some j, some (some u1) => (match setU u1 j y with | some u2 => .next (σ.set k (some u2)) | none => .bad)
    | _, _ => .bad
def slI : Option (Option U) → Bool
  | some (some _) => true
  | _ => false
@[simp] theorem slI_some (u : U) : slI (some (some u)) = true := rfl
theorem s_setI0 (n : Nat) (i e : E Cx) : (St.setI n i e).v σ = onV (e.v σ) fun x σ1 => match xU x with
  | some y => if slI σ1[n]? then onV (i.v σ1) fun z σ2 => stX σ2[n]? (xI z) y n σ2 else .bad
  | none => .bad := by
  show setIV n i.v e.v σ = _
  unfold setIV
  congr; funext x σ1
  cases xU x with
  | none => rfl
  | some y =>
    cases h : σ1[n]? with
    | none => rfl
    | some o => cases o <;> rfl
@[simp] theorem sv_setI (n : Nat) (i e : E Cx) : (St.setI n i e).v σ = onV (e.v σ) fun x σ1 => match xU x with
  | some y => if slI σ1[n]? then onV (i.v σ1) fun z σ2 => stX σ2[n]? (xI z) y n σ2 else .bad
  | none => .bad := s_setI0 n i e
@[simp] theorem stX_u (u1 y : U) (j : Int) (n : Nat) : stX (some (some u1)) (some j) y n σ = match setU u1 j y with | some u2 => .next (σ.set n (some u2)) | none => .bad := rfl
@[simp] theorem set_of (ps : List P) (p : P) (i : Int) : setU (.own ps) i (.fz p) = (ix ps.length i).map fun j => .own (ps.set j p) := rfl
@[simp] theorem set_no (us : List U) (u : U) (i : Int) : setU (.nst us) i u = (ix us.length i).map fun j => .nst (us.set j u) := rfl
@[simp] theorem sv_for (w : It Cx) (t : Tgt) (b : St Cx) (hp : ∀ q, q ∈ Cx → q.i ∉ t.own) : (St.for' w t b hp).v σ = onV (w.v σ) fun ps σ1 => forV t.v b.v ps σ1 := rfl
def raX (c : String) (fs : List String) (xs : List X) (σ : VEnv) : VS := match toUs xs with
  | some us => if us.length = fs.length then .exc ⟨c, some (fs.zip (us.map U.toP))⟩ σ else .bad
  | none => .bad
@[simp] theorem sv_raise (c : String) (fs : List String) (as : Ar Cx) : (St.raise c fs as).v σ = onV (as.v σ) fun xs σ1 => raX c fs xs σ1 := rfl
@[simp] theorem raX_eq (c : String) (fs : List String) (xs : List X) : raX c fs xs σ = match toUs xs with
  | some us => if us.length = fs.length then .exc ⟨c, some (fs.zip (us.map U.toP))⟩ σ else .bad
  | none => .bad := rfl
@[simp] theorem s_raise0 (c : String) : (St.raise0 (Cx := Cx) c).v σ = .exc ⟨c, none⟩ σ := rfl
/-! ### defs -/
@[simp] theorem f_mk (n m : Nat) (ios : List Nat) (b : St []) (hd : ∀ i, i ∈ ios → i ∉ b.asg) (us : List U) : wF ((Fn.mk' n m ios b hd).v us) QU Z ↔ us.length = n ∧ wS (b.v (us.map some ++ List.replicate (m - n) none)) ⟨fun σ => QU (.fz .non) (outsV n ios σ), fun u σ => QU u (outsV n ios σ), fun _ => False, fun _ => False, fun x σ => Z x (outsV n ios σ)⟩ := by
  show wF (fnV n m ios b.v us) QU Z ↔ _
  unfold fnV
  by_cases hl : us.length = n
  · rw [if_pos hl]
    cases b.v (us.map some ++ List.replicate (m - n) none) <;> simp [hl]
  · rw [if_neg hl]; simp [hl]
@[simp] theorem ios_mk (n m : Nat) (ios : List Nat) (b : St []) (hd : ∀ i, i ∈ ios → i ∉ b.asg) : (Fn.mk' n m ios b hd).ios = ios := rfl
/-! ### loops -/
theorem forV_by {t : U → VEnv → Option VEnv} {b : VEnv → VS} {ps : List P} (Inv : Nat → VEnv → Prop)
    (step : ∀ i p σ, ps[i]? = some p → Inv i σ → ∃ σ1, t (.fz p) σ = some σ1 ∧ wS (b σ1) ⟨Inv (i + 1), k.rt, k.nx, Inv (i + 1), k.ex⟩)
    (done : ∀ σ, Inv ps.length σ → k.nx σ) (start : Inv 0 σ) : wS (forV t b ps σ) k := by
  have key : ∀ (qs : List P) (i : Nat) (σ : VEnv), i ≤ ps.length → ps.drop i = qs → Inv i σ → wS (forV t b qs σ) k := by
    intro qs
    induction qs with
    | nil =>
      intro i σ hi hq inv
      unfold forV
      have : i = ps.length := by have := congrArg List.length hq; simp at this; omega
      subst this
      exact done σ inv
    | cons q qs ih =>
      intro i σ hi hq inv
      have hl : i < ps.length := by have := congrArg List.length hq; simp at this; omega
      rw [List.drop_eq_getElem_cons hl] at hq
      obtain ⟨e1, e2⟩ := List.cons.inj hq
      obtain ⟨σ1, h1, h2⟩ := step i q σ (by rw [List.getElem?_eq_getElem hl, e1]) inv
      unfold forV
      simp only [h1]
      cases hb : b σ1 with
      | next σ2 => rw [hb] at h2; exact ih (i + 1) σ2 hl e2 h2
      | cont σ2 => rw [hb] at h2; exact ih (i + 1) σ2 hl e2 h2
      | brk σ2 => rw [hb] at h2; exact h2
      | ret u σ2 => rw [hb] at h2; exact h2
      | exc x σ2 => rw [hb] at h2; exact h2
      | bad => rw [hb] at h2; exact h2
  exact key ps 0 σ (Nat.zero_le _) rfl start
/-- a loop as a fold over typed items: s what is worked out so far, y what the loop's own names hold -/
theorem for_fold {S Y γ : Type} {t : U → VEnv → Option VEnv} {b : VEnv → VS} (f : γ → P) (en : S → Y → VEnv) (step : S → γ → S) (xs : List γ)
    (hs : ∀ s y x, x ∈ xs → ∃ σ1, t (.fz (f x)) (en s y) = some σ1 ∧ wS (b σ1) ⟨fun σ' => ∃ y', σ' = en (step s x) y', fun _ _ => False, fun _ => False, fun σ' => ∃ y', σ' = en (step s x) y', fun _ _ => False⟩) :
    ∀ (s : S) (y : Y), (∀ y', k.nx (en (xs.foldl step s) y')) → wS (forV t b (xs.map f) (en s y)) k := by
  induction xs with
  | nil => intro s y q; exact q y
  | cons x xs ih =>
    intro s y q
    obtain ⟨σ1, h1, h2⟩ := hs s y x (by simp)
    simp only [List.map_cons, forV, h1]
    have go : ∀ σ', (∃ y', σ' = en (step s x) y') → wS (forV t b (xs.map f) σ') k := by
      rintro _ ⟨y', rfl⟩
      exact ih (fun s y x hx => hs s y x (by simp [hx])) _ _ q
    cases hb : b σ1 with
    | next σ2 => rw [hb] at h2; exact go _ h2
    | cont σ2 => rw [hb] at h2; exact go _ h2
    | brk σ2 => rw [hb] at h2; exact h2.elim
    | ret u σ2 => rw [hb] at h2; exact h2.elim
    | exc x σ2 => rw [hb] at h2; exact h2.elim
    | bad => rw [hb] at h2; exact h2.elim
/-- a loop that answers False at the first bad item and leaves the rest alone -/
theorem for_all {Y γ : Type} {t : U → VEnv → Option VEnv} {b : VEnv → VS} (f : γ → P) (en : Y → VEnv) (good : γ → Bool) (u : U) (xs : List γ)
    (hs : ∀ y x, x ∈ xs → ∃ σ1, t (.fz (f x)) (en y) = some σ1 ∧ wS (b σ1) ⟨fun σ' => good x = true ∧ ∃ y', σ' = en y', fun u' σ' => good x = false ∧ u' = u ∧ ∃ y', σ' = en y', fun _ => False, fun σ' => good x = true ∧ ∃ y', σ' = en y', fun _ _ => False⟩) :
    ∀ y : Y, (xs.all good = true → ∀ y', k.nx (en y')) → (xs.all good = false → ∀ y', k.rt u (en y')) → wS (forV t b (xs.map f) (en y)) k := by
  induction xs with
  | nil => intro y q _; exact q rfl y
  | cons x xs ih =>
    intro y q1 q2
    obtain ⟨σ1, h1, h2⟩ := hs y x (by simp)
    simp only [List.map_cons, forV, h1]
    have go : ∀ σ', (good x = true ∧ ∃ y', σ' = en y') → wS (forV t b (xs.map f) σ') k := by
      rintro _ ⟨hg, y', rfl⟩
      exact ih (fun y x hx => hs y x (by simp [hx])) _ (fun h => q1 (by simp [hg]; simpa using h)) fun h => q2 (by simp [hg]; simpa using h)
    cases hb : b σ1 with
    | next σ2 => rw [hb] at h2; exact go _ h2
    | cont σ2 => rw [hb] at h2; exact go _ h2
    | brk σ2 => rw [hb] at h2; exact h2.elim
    | ret u σ2 => rw [hb] at h2; obtain ⟨hg, rfl, y', rfl⟩ := h2; exact q2 (by simp [hg]) y'
    | exc x σ2 => rw [hb] at h2; exact h2.elim
    | bad => rw [hb] at h2; exact h2.elim
end
/-! ### operations on known trees -/
section
variable {s t : List Char} {i j : Int} {ps qs : List P}
@[simp] theorem Add_v : Add.v = addP := rfl
@[simp] theorem Sub_v : Sub.v = subP := rfl
@[simp] theorem Mul_v : Mul.v = mulP := rfl
@[simp] theorem Fdiv_v : Fdiv.v = fdivP := rfl
@[simp] theorem Mod_v : Mod.v = modP := rfl
@[simp] theorem Pow_v : Pow.v = powP := rfl
@[simp] theorem Neg_v : Neg.v = negP := rfl
@[simp] theorem opB_v (f : OpB) : f.op.v = f.v := rfl
@[simp] theorem opU_v (f : OpU) : f.op.v = f.v := rfl
@[simp] theorem Eq_v : Eq_.v = eqP := rfl
@[simp] theorem Ne_v : Ne_.v = neP := rfl
@[simp] theorem Lt_v : Lt_.v = ltP := rfl
@[simp] theorem Le_v : Le_.v = leP := rfl
@[simp] theorem Gt_v : Gt_.v = gtP := rfl
@[simp] theorem Ge_v : Ge_.v = geP := rfl
@[simp] theorem IsN_v : IsN_.v = isNP := rfl
@[simp] theorem NotN_v : NotN_.v = notNP := rfl
@[simp] theorem In_v : In_.v = inP := rfl
@[simp] theorem NotIn_v : NotIn_.v = notInP := rfl
@[simp] theorem Idx_v : Idx.v = idxP := rfl
@[simp] theorem Isi_v (t : Ty) : (Isi t).v = isiP t := rfl
@[simp] theorem Int_v : Int_.v = intP := rfl
@[simp] theorem Len_v : Len.v = lenP := rfl
@[simp] theorem Ord_v : Ord_.v = ordP := rfl
@[simp] theorem Min_v : Min_.v = minP := rfl
@[simp] theorem Max_v : Max_.v = maxP := rfl
@[simp] theorem MaxL_v : MaxL.v = maxLP := rfl
@[simp] theorem MinL_v : MinL.v = minLP := rfl
@[simp] theorem Tuple_v : Tuple_.v = tupleP := rfl
@[simp] theorem List_v : List_.v = listP := rfl
@[simp] theorem Sorted_v : Sorted.v = sortedP := rfl
@[simp] theorem SortSet_v : SortSet.v = sortSetP := rfl
@[simp] theorem addP_i : addP (.int i) (.int j) = some (.fz (.int (i + j))) := rfl
@[simp] theorem addP_s : addP (.str s) (.str t) = if s.length + t.length ≤ LINE then some (.fz (.str (s ++ t))) else none := rfl
@[simp] theorem addP_t : addP (.tup ps) (.tup qs) = if ps.length + qs.length ≤ LINE then some (.fz (.tup (ps ++ qs))) else none := rfl
@[simp] theorem addP_l : addP (.lst ps) (.lst qs) = if ps.length + qs.length ≤ LINE then some (.own (ps ++ qs)) else none := rfl
@[simp] theorem subP_i : subP (.int i) (.int j) = some (.fz (.int (i - j))) := rfl
@[simp] theorem mulP_i : mulP (.int i) (.int j) = if mulOk i j then some (.fz (.int (i * j))) else none := rfl
@[simp] theorem mulP_s : mulP (.str s) (.int i) = if 2 ≤ i ∧ i ≤ 1000 ∧ s.length ≤ 1000 then some (.fz (.str (List.replicate i.toNat s).flatten)) else none := rfl
@[simp] theorem mulP_t : mulP (.tup ps) (.int i) = if 2 ≤ i ∧ i ≤ 1000 ∧ ps.length ≤ 1000 ∧ ps.length ≠ 0 then some (.fz (.tup (List.replicate i.toNat ps).flatten)) else none := rfl
@[simp] theorem mulP_l : mulP (.lst ps) (.int i) = if 0 ≤ i ∧ i ≤ 1000 ∧ ps.length * i.toNat ≤ LINE then some (.own (List.replicate i.toNat ps).flatten) else none := rfl
@[simp] theorem fdivP_i : fdivP (.int i) (.int j) = if 0 < j ∧ j.natAbs.log2 < 9000 then some (.fz (.int (i / j))) else none := rfl
@[simp] theorem modP_i : modP (.int i) (.int j) = if 0 < j then some (.fz (.int (i % j))) else none := rfl
@[simp] theorem powP_i : powP (.int i) (.int j) = if powOk i j then some (.fz (.int (i ^ j.toNat))) else none := rfl
@[simp] theorem negP_i : negP (.int i) = some (.fz (.int (-i))) := rfl
@[simp] theorem eqP_eq (p q : P) : eqP p q = if p.le 60 && q.le 60 then some (ub (P.eqv p q)) else none := rfl
@[simp] theorem neP_eq (p q : P) : neP p q = if p.le 60 && q.le 60 then some (ub (!P.eqv p q)) else none := rfl
@[simp] theorem ltP_i : ltP (.int i) (.int j) = some (ub (decide (i < j))) := rfl
@[simp] theorem leP_i : leP (.int i) (.int j) = some (ub (decide (i ≤ j))) := rfl
@[simp] theorem gtP_i : gtP (.int i) (.int j) = some (ub (decide (j < i))) := rfl
@[simp] theorem geP_i : geP (.int i) (.int j) = some (ub (decide (j ≤ i))) := rfl
@[simp] theorem isNP_n (p : P) : isNP p .non = some (ub (isNon p)) := rfl
@[simp] theorem notNP_n (p : P) : notNP p .non = some (ub (!isNon p)) := rfl
@[simp] theorem isNon_n : isNon .non = true := rfl
@[simp] theorem isNon_i : isNon (.int i) = false := rfl
@[simp] theorem isNon_s : isNon (.str s) = false := rfl
@[simp] theorem isNon_b (b : Bool) : isNon (.bl b) = false := rfl
@[simp] theorem isNon_t : isNon (.tup ps) = false := rfl
@[simp] theorem isNon_l : isNon (.lst ps) = false := rfl
@[simp] theorem inP_eq (p q : P) : inP p q = (inP' p q).map ub := rfl
@[simp] theorem notInP_eq (p q : P) : notInP p q = (inP' p q).map fun b => ub (!b) := rfl
@[simp] theorem inP_c (c : Char) : inP' (.str [c]) (.str t) = some (decide (c ∈ t)) := rfl
theorem inP_l (p : P) : inP' p (.lst ps) = if p.le 60 && P.les 60 ps then some (ps.any fun q => P.eqv q p) else none := by
  rcases p with _ | _ | _ | s | _ | _ | _ | _ | _ <;> first | rfl | (rcases s with _ | ⟨c, _ | ⟨c', s⟩⟩ <;> rfl)
theorem inP_t (p : P) : inP' p (.tup ps) = if flatP p && ps.all flatP then some (ps.any fun q => P.eqv q p) else none := by
  rcases p with _ | _ | _ | s | _ | _ | _ | _ | _ <;> first | rfl | (rcases s with _ | ⟨c, _ | ⟨c', s⟩⟩ <;> rfl)
@[simp] theorem idxP_s : idxP (.str s) (.int i) = if s.length ≤ LINE then (atI s i).map fun c => .fz (.str [c]) else none := rfl
@[simp] theorem idxP_t : idxP (.tup ps) (.int i) = (atI ps i).map .fz := rfl
@[simp] theorem idxP_l : idxP (.lst ps) (.int i) = (atI ps i).map .fz := rfl
@[simp] theorem idxP_c : idxP (.scr ps) (.int i) = (atI ps i).map .fz := rfl
@[simp] theorem isiP_eq (t : Ty) (p : P) : isiP t p = (tyP p).map fun u => ub (isTy t u) := rfl
@[simp] theorem tyP_n : tyP .non = some none := rfl
@[simp] theorem tyP_b (b : Bool) : tyP (.bl b) = some (some .bool) := rfl
@[simp] theorem tyP_i : tyP (.int i) = some (some .int) := rfl
@[simp] theorem tyP_s : tyP (.str s) = some (some .str) := rfl
@[simp] theorem tyP_t : tyP (.tup ps) = some (some .tuple) := rfl
@[simp] theorem tyP_l : tyP (.lst ps) = some (some .list) := rfl
@[simp] theorem intP_i : intP (.int i) = some (.fz (.int i)) := rfl
@[simp] theorem intP_b (b : Bool) : intP (.bl b) = some (.fz (.int (b2i b))) := rfl
@[simp] theorem lenP_s : lenP (.str s) = if s.length ≤ LINE then some (.fz (.int s.length)) else none := rfl
@[simp] theorem lenP_t : lenP (.tup ps) = some (.fz (.int ps.length)) := rfl
@[simp] theorem lenP_l : lenP (.lst ps) = some (.fz (.int ps.length)) := rfl
@[simp] theorem lenP_c : lenP (.scr ps) = some (.fz (.int ps.length)) := rfl
@[simp] theorem ordP_c (c : Char) : ordP (.str [c]) = some (.fz (.int c.toNat)) := rfl
@[simp] theorem minP_i : minP (.int i) (.int j) = some (.fz (.int (if j < i then j else i))) := rfl
@[simp] theorem maxP_i : maxP (.int i) (.int j) = some (.fz (.int (if j > i then j else i))) := rfl
@[simp] theorem seqP_t : seqP (.tup ps) = some ps := rfl
@[simp] theorem seqP_l : seqP (.lst ps) = some ps := rfl
@[simp] theorem seqP_c : seqP (.scr ps) = some ps := rfl
@[simp] theorem allIP_map {γ : Type} (f : γ → Int) : ∀ xs : List γ, allIP (xs.map fun x => .int (f x)) = some (xs.map f)
  | [] => rfl
  | x :: r => by simp [allIP, allIP_map f r]
@[simp] theorem allSP_map {γ : Type} (f : γ → List Char) : ∀ xs : List γ, allSP (xs.map fun x => .str (f x)) = some (xs.map f)
  | [] => rfl
  | x :: r => by simp [allSP, allSP_map f r]
@[simp] theorem tupleP_eq (p : P) : tupleP p = (seqP p).map fun ps => .fz (.tup ps) := rfl
@[simp] theorem listP_eq (p : P) : listP p = (seqP p).map .own := rfl
@[simp] theorem maxLP_eq (p : P) : maxLP p = ((seqP p).bind allIP).bind fun is => (maxI is).map fun m => .fz (.int m) := rfl
@[simp] theorem minLP_eq (p : P) : minLP p = ((seqP p).bind allIP).bind fun is => (minI is).map fun m => .fz (.int m) := rfl
end
end Py
end

section
set_option autoImplicit false
set_option linter.all false
/-! More over trees: sums, all, any, reversed lists, texts of numbers, repr, while, parallel assignment. -/
namespace Py
def allBP : List P → Option (List Bool)
  | [] => some []
  | .bl i :: r => (allBP r).map (i :: ·)
  | _ :: _ => none
theorem allB_fr {g : G} {F : Fz} : ∀ {ps : List P} {ds : List D} {is : List Bool}, frs g F ps ds → allBP ps = some is → allB ds = some is
  | [], _, _, h, e => by rw [h]; exact e
  | .bl i :: ps, _, _, ⟨d, r, e1, h1, h2⟩, e => by
    simp only [allBP, Option.map_eq_some_iff] at e
    obtain ⟨is, e, rfl⟩ := e
    rw [e1, show d = .bl i from h1]
    simp only [allB, allB_fr h2 e, Option.map_some]
  | .non :: _, _, _, _, e => by cases e
  | .int _ :: _, _, _, _, e => by cases e
  | .str _ :: _, _, _, _, e => by cases e
  | .tup _ :: _, _, _, _, e => by cases e
  | .lst _ :: _, _, _, _, e => by cases e
  | .scr _ :: _, _, _, _, e => by cases e
  | .dct _ _ :: _, _, _, _, e => by cases e
  | .ins _ _ _ :: _, _, _, _, e => by cases e
/-- a list's items -/
def lsP : P → Option (List P)
  | .lst ps => some ps
  | .scr ps => some ps
  | _ => none
theorem ls_fr {g : G} {F : Fz} {p : P} {x : D} {ps : List P} (h : fr1 g F p x) (e : lsP p = some ps) : ∃ ds, lstOf x g = some ds ∧ frs g F ps ds := by
  cases p with
  | lst qs => cases e; obtain ⟨r, ds, rfl, hr, h⟩ := d_lst h; exact ⟨ds, lstOf_lst hr, h⟩
  | scr qs => cases e; obtain ⟨r, ds, rfl, _, hr, h⟩ := d_scr h; exact ⟨ds, lstOf_frz hr, h⟩
  | _ => cases e
def allP (p : P) : Option U := ((lsP p).bind allBP).map fun bs => .fz (.bl (bs.all id))
def anyP (p : P) : Option U := ((lsP p).bind allBP).map fun bs => .fz (.bl (bs.any id))
def sumP (p : P) : Option U := ((lsP p).bind allIP).map fun is => .fz (.int is.sum)
def revP (p : P) : Option U := (lsP p).map fun ps => .own ps.reverse
def All_ : OpU := ⟨oAll, allP, fun g F p x u hF h1 e => by
  simp only [allP, Option.map_eq_some_iff, Option.bind_eq_some_iff] at e
  obtain ⟨is, ⟨ps, e1, e2⟩, rfl⟩ := e
  obtain ⟨ds, e4, e5⟩ := ls_fr h1 e1
  exact ⟨_, by unfold oAll; rw [e4, Option.bind_some, allB_fr e5 e2]; rfl, rfl, rfl⟩⟩
def Any_ : OpU := ⟨oAny, anyP, fun g F p x u hF h1 e => by
  simp only [anyP, Option.map_eq_some_iff, Option.bind_eq_some_iff] at e
  obtain ⟨is, ⟨ps, e1, e2⟩, rfl⟩ := e
  obtain ⟨ds, e4, e5⟩ := ls_fr h1 e1
  exact ⟨_, by unfold oAny; rw [e4, Option.bind_some, allB_fr e5 e2]; rfl, rfl, rfl⟩⟩
def Sum_ : OpU := ⟨oSum, sumP, fun g F p x u hF h1 e => by
  simp only [sumP, Option.map_eq_some_iff, Option.bind_eq_some_iff] at e
  obtain ⟨is, ⟨ps, e1, e2⟩, rfl⟩ := e
  obtain ⟨ds, e4, e5⟩ := ls_fr h1 e1
  exact ⟨_, by unfold oSum; rw [e4, Option.bind_some, allI_fr e5 e2]; rfl, rfl, rfl⟩⟩
theorem frs_rev {g : G} {F : Fz} : ∀ {ps : List P} {ds : List D}, frs g F ps ds → frs g F ps.reverse ds.reverse
  | [], _, h => by rw [h]; rfl
  | p :: ps, _, ⟨d, r, e, h1, h2⟩ => by rw [e, List.reverse_cons, List.reverse_cons]; exact frs_snoc (frs_rev h2) h1
def Rev_ : Op1 := ⟨oRev, revP, fun g F p x u hF h1 e => by
  simp only [revP, Option.map_eq_some_iff] at e
  obtain ⟨ps, e, rfl⟩ := e
  obtain ⟨ds, e1, e2⟩ := ls_fr h1 e
  unfold oRev
  rw [e1]
  exact made_lst (frs_rev e2)⟩
def strP : P → Option U
  | .int i => if i.natAbs.log2 < 1920 then some (.fz (.str (toString i).toList)) else none
  | _ => none
def Str_ : OpU := ⟨oStr, strP, fun g F p x u hF h1 e => by
  unfold strP at e
  split at e
  · split at e
    · rename_i hl; cases e; rw [d_int h1]; exact ⟨_, by simp only [oStr, if_pos hl], rfl, rfl⟩
    · cases e
  · cases e⟩
def rngLP : P → Option U
  | .int n => if 0 ≤ n ∧ n ≤ LINE then some (.own (rngP 0 n.toNat)) else none
  | _ => none
def Rng_ : Op1 := ⟨oRng, rngLP, fun g F p x u hF h1 e => by
  unfold rngLP at e
  split at e
  · split at e
    · rename_i hl; cases e; rw [d_int h1]; simp only [oRng, if_pos hl]; exact made_lst (frs_ints _ _)
    · cases e
  · cases e⟩
def reprP (p : P) : Option U := if p.le 60 = true then (P.shows p).bind fun s => if s.length ≤ LINE then some (.fz (.str s)) else none else none
def Repr_ : OpU := ⟨oRepr, reprP, fun g F p x u hF h1 e => by
  unfold reprP at e
  split at e
  · rename_i hl
    simp only [Option.bind_eq_some_iff] at e
    obtain ⟨s, hs, e⟩ := e
    split at e
    · rename_i hz
      cases e
      exact ⟨.str s, by unfold oRepr; rw [fr1_viewN hl h1, Option.bind_some, hs, Option.bind_some, if_pos hz], rfl, rfl⟩
    · cases e
  · cases e⟩
/-! ### while -/
def whV (t : VT) (b : VEnv → VS) : Nat → VEnv → VS
  | 0 => fun _ => .bad
  | n + 1 => fun σ => onV (t σ) fun c σ1 => if c then (match b σ1 with
    | .next σ2 => whV t b n σ2
    | .cont σ2 => whV t b n σ2
    | .brk σ2 => .next σ2
    | r => r) else .next σ1
theorem whGo_eq (t : T) (b : S) (n : Nat) (ρ : Env) (g : G) : whGo t b (n + 1) ρ g = onR (t ρ g) ρ fun c g1 => if c then (match b ρ g1 with
    | .next ρ2 g2 => whGo t b n ρ2 g2
    | .cont ρ2 g2 => whGo t b n ρ2 g2
    | .brk ρ2 g2 => .next ρ2 g2
    | r => r) else .next ρ g1 := by
  show (match t ρ g with | .ok true g1 => _ | .ok false g1 => _ | .exc e g1 => _ | .bad => _) = _
  unfold onR
  cases t ρ g with
  | ok c g1 => cases c <;> rfl
  | exc e g1 => rfl
  | bad => rfl
section
variable {Cx : Ctx}
theorem wh_ok (t : Te Cx) (b : St Cx) : ∀ n : Nat, SimS Cx (whGo t.m b.m n) (whV t.v b.v n) b.asg
  | 0 => fun ρ σ g F As h iv => trivial
  | n + 1 => fun ρ σ g F As h iv => by
    rw [whGo_eq]
    refine SimS1.on (t.ok ρ σ g F As h iv) fun c c' g1 F1 As1 σ1 B1 h1 k1 => ?_
    obtain ⟨rfl, rfl⟩ := h1
    have k0 : Oks Cx g F As ρ g1 F1 σ1 As1 ρ [] [] := Oks.of k1
    cases c with
    | false => exact ⟨ρ, g1, F1, As1, rfl, k0.wk fun _ h => by cases h⟩
    | true =>
      have hb := b.ok ρ σ1 g1 F1 As1 k1.env k1.iv
      have go : ∀ (ρ2 : Env) (g2 : G) (F2 : Fz) (As2 : Own) (σ2 : VEnv), Oks Cx g1 F1 As1 ρ g2 F2 σ2 As2 ρ2 [] b.asg → SimS1 Cx b.asg ρ g F As (whGo t.m b.m n ρ2 g2) (whV t.v b.v n σ2) := by
        intro ρ2 g2 F2 As2 σ2 k
        exact (SimS1.then (k0.trans k) (wh_ok t b n ρ2 σ2 g2 F2 As2 k.env k.iv)).wk fun j hj => by simpa using hj
      have k3 : ∀ {g2 : G} {F2 : Fz} {σ2 : VEnv} {As2 : Own} {ρ2 : Env} {B : List Nat}, Oks Cx g1 F1 As1 ρ g2 F2 σ2 As2 ρ2 B b.asg → Oks Cx g F As ρ g2 F2 σ2 As2 ρ2 B b.asg := fun k => (k0.trans k).wk fun j hj => by simpa using hj
      rw [if_pos rfl, if_pos rfl]
      cases hv : b.v σ1 with
      | next σ2 => rw [hv] at hb; obtain ⟨ρ2, g2, F2, As2, e, k⟩ := hb; rw [e]; exact go ρ2 g2 F2 As2 σ2 k
      | cont σ2 => rw [hv] at hb; obtain ⟨ρ2, g2, F2, As2, e, k⟩ := hb; rw [e]; exact go ρ2 g2 F2 As2 σ2 k
      | brk σ2 => rw [hv] at hb; obtain ⟨ρ2, g2, F2, As2, e, k⟩ := hb; rw [e]; exact ⟨ρ2, g2, F2, As2, rfl, k3 k⟩
      | ret u σ2 => rw [hv] at hb; obtain ⟨d', ρ2, g2, F2, As2, B2, e, e2, k⟩ := hb; rw [e]; exact ⟨d', ρ2, g2, F2, As2, B2, rfl, e2, k3 k⟩
      | exc x σ2 => rw [hv] at hb; obtain ⟨e', ρ2, g2, F2, As2, e, e2, k⟩ := hb; rw [e]; exact ⟨e', ρ2, g2, F2, As2, rfl, e2, k3 k⟩
      | bad => trivial
noncomputable def St.while' (t : Te Cx) (b : St Cx) : St Cx := ⟨sWhile t.m b.m, fun σ => whV t.v b.v TURNS σ, b.asg, wh_ok t b TURNS⟩
/-! ### x, y = a, b -/
def parV (as : VA) (t : List U → VEnv → Option VEnv) : VEnv → VS := fun σ => onV (as σ) fun xs σ1 => match toUs xs with | some us => (match t us σ1 with | some σ2 => .next σ2 | none => .bad) | none => .bad
def St.par (as : Ar Cx) (t : Tgts) (hp : ∀ q, q ∈ Cx → q.i ∉ t.own) : St Cx := ⟨sPar as.m t.m, parV as.v t.v, t.own, fun ρ σ g F As h iv => SimS1.on (as.ok ρ σ g F As h iv) fun xs ds g1 F1 As1 σ1 B1 h1 k1 => by
  cases hu : toUs xs with
  | none => trivial
  | some us =>
    have h2 := toUs_rls hu h1
    dsimp only
    cases ht : t.v us σ1 with
    | none => trivial
    | some σ2 =>
      obtain ⟨ρ2, As2, a1, a2, a3, a4, a5, a6⟩ := t.ok ds us g1 F1 B1 [] As1 ρ σ1 σ2 h2 (env_nil k1.env) (by rw [List.append_nil]; exact k1.iv) ht
      rw [List.append_nil] at a4
      dsimp only
      rw [a1]
      exact ⟨ρ2, g1, F1, As2, rfl, ⟨a2.1, a2.2, fun q hq => pinR_rho (a5 q.i (hp q hq)).1 (k1.env.pins q hq)⟩, a3, k1.sp.less a4, fun j hj => (a5 j hj).1, a6⟩⟩
/-! ### x, y = a list -/
def lsU : U → Option (List P)
  | .own ps => some ps
  | .fz (.lst ps) => some ps
  | _ => none
theorem rls_fz {g : G} {F : Fz} : ∀ {ps : List P} {ds : List D}, frs g F ps ds → rls g F (ps.map .fz) ds []
  | [], _, h => ⟨h, rfl⟩
  | p :: ps, _, ⟨d, r, e, h1, h2⟩ => ⟨d, r, [], [], e, ⟨h1, rfl⟩, rls_fz h2, rfl⟩
theorem lsU_rl {g : G} {F : Fz} {u : U} {d : D} {B : List Nat} {ps : List P} (h : rl g F u d B) (e : lsU u = some ps) : ∃ xs, lstOf d g = some xs ∧ frs g F ps xs := by
  unfold lsU at e
  split at e
  · cases e
    obtain ⟨r, xs, rfl, hx, h, _⟩ := h
    exact ⟨xs, lstOf_lst hx, h⟩
  · cases e
    obtain ⟨⟨r, xs, rfl, _, hx, h⟩, _⟩ := h
    exact ⟨xs, lstOf_lst hx, h⟩
  · cases e
def unpV (e : VM) (t : List U → VEnv → Option VEnv) : VEnv → VS := fun σ => onV (e σ) fun x σ1 => match (xU x).bind lsU with | some ps => (match t (ps.map .fz) σ1 with | some σ2 => .next σ2 | none => .bad) | none => .bad
def St.unp (e : E Cx) (t : Tgts) (hp : ∀ q, q ∈ Cx → q.i ∉ t.own) : St Cx := ⟨sUnp e.m t.m, unpV e.v t.v, t.own, fun ρ σ g F As h iv => SimS1.on (e.ok ρ σ g F As h iv) fun x d g1 F1 As1 σ1 B1 h1 k1 => by
  cases x with
  | ln _ => trivial
  | u u =>
    show SimS1 Cx t.own ρ g F As _ (match lsU u with | some ps => (match t.v (ps.map .fz) σ1 with | some σ2 => .next σ2 | none => .bad) | none => .bad)
    cases hu : lsU u with
    | none => trivial
    | some ps =>
      obtain ⟨xs, e1, e2⟩ := lsU_rl h1 hu
      dsimp only
      rw [e1]
      dsimp only
      cases ht : t.v (ps.map .fz) σ1 with
      | none => trivial
      | some σ2 =>
        have k2 := k1.drop
        obtain ⟨ρ2, As2, a1, a2, a3, a4, a5, a6⟩ := t.ok xs (ps.map .fz) g1 F1 [] [] As1 ρ σ1 σ2 (rls_fz e2) (env_nil k2.env) k2.iv ht
        dsimp only
        rw [a1]
        exact ⟨ρ2, g1, F1, As2, rfl, ⟨a2.1, a2.2, fun q hq => pinR_rho (a5 q.i (hp q hq)).1 (k2.env.pins q hq)⟩, a3, k2.sp.less a4, fun j hj => (a5 j hj).1, a6⟩⟩
end
/-! ### reasoning -/
section
variable {Cx : Ctx} {σ : VEnv} {k : Kv} {p : P} {ps qs : List P}
@[simp] theorem v_all : All_.op.v = allP := rfl
@[simp] theorem v_anyL : Any_.op.v = anyP := rfl
@[simp] theorem v_sum : Sum_.op.v = sumP := rfl
@[simp] theorem v_rev : Rev_.v = revP := rfl
@[simp] theorem v_strI : Str_.op.v = strP := rfl
@[simp] theorem v_rngL : Rng_.v = rngLP := rfl
@[simp] theorem v_repr : Repr_.op.v = reprP := rfl
@[simp] theorem lsP_l : lsP (.lst ps) = some ps := rfl
@[simp] theorem lsP_s : lsP (.scr ps) = some ps := rfl
@[simp] theorem allBP_map {γ : Type} (f : γ → Bool) : ∀ xs : List γ, allBP (xs.map fun x => .bl (f x)) = some (xs.map f)
  | [] => rfl
  | x :: r => by simp [allBP, allBP_map f r]
@[simp] theorem allP_eq (p : P) : allP p = ((lsP p).bind allBP).map fun bs => .fz (.bl (bs.all id)) := rfl
@[simp] theorem anyP_eq (p : P) : anyP p = ((lsP p).bind allBP).map fun bs => .fz (.bl (bs.any id)) := rfl
@[simp] theorem sumP_eq (p : P) : sumP p = ((lsP p).bind allIP).map fun is => .fz (.int is.sum) := rfl
@[simp] theorem revP_eq (p : P) : revP p = (lsP p).map fun ps => .own ps.reverse := rfl
@[simp] theorem strP_i (i : Int) : strP (.int i) = if i.natAbs.log2 < 1920 then some (.fz (.str (toString i).toList)) else none := rfl
@[simp] theorem rngLP_i (i : Int) : rngLP (.int i) = if 0 ≤ i ∧ i ≤ LINE then some (.own (rngP 0 i.toNat)) else none := rfl
@[simp] theorem s_par (as : Ar Cx) (t : Tgts) (hp : ∀ q, q ∈ Cx → q.i ∉ t.own) : (St.par as t hp).v σ = onV (as.v σ) fun xs σ1 => match toUs xs with | some us => (match t.v us σ1 with | some σ2 => .next σ2 | none => .bad) | none => .bad := rfl
@[simp] theorem s_unpS (e : E Cx) (t : Tgts) (hp : ∀ q, q ∈ Cx → q.i ∉ t.own) : (St.unp e t hp).v σ = onV (e.v σ) fun x σ1 => match (xU x).bind lsU with | some ps => (match t.v (ps.map .fz) σ1 with | some σ2 => .next σ2 | none => .bad) | none => .bad := rfl
@[simp] theorem lsU_own : lsU (.own ps) = some ps := rfl
@[simp] theorem lsU_fz : lsU (.fz (.lst ps)) = some ps := rfl
theorem s_while' (t : Te Cx) (b : St Cx) : (St.while' t b).v σ = whV t.v b.v TURNS σ := rfl
/-- a loop by an invariant and a measure -/
theorem while_by (t : VT) (b : VEnv → VS) (Pv : VEnv → Prop) (μ : VEnv → Nat) (turn : ∀ σ, Pv σ → wV (t σ) (fun c σ1 => if c then wS (b σ1) ⟨fun σ2 => Pv σ2 ∧ μ σ2 < μ σ, k.rt, k.nx, fun σ2 => Pv σ2 ∧ μ σ2 < μ σ, k.ex⟩ else k.nx σ1) k.ex) : ∀ (n : Nat) (σ : VEnv), μ σ < n → Pv σ → wS (whV t b n σ) k
  | 0, σ, h, _ => by omega
  | n + 1, σ, h, hp => by
    unfold whV
    rw [wS_onV]
    refine wV_imp (turn σ hp) (fun c σ1 q => ?_) fun _ _ => id
    cases c with
    | false => exact q
    | true =>
      rw [if_pos rfl] at q ⊢
      cases hb : b σ1 with
      | next σ2 => rw [hb] at q; exact while_by t b Pv μ turn n σ2 (by have := q.2; omega) q.1
      | cont σ2 => rw [hb] at q; exact while_by t b Pv μ turn n σ2 (by have := q.2; omega) q.1
      | brk σ2 => rw [hb] at q; exact q
      | ret u σ2 => rw [hb] at q; exact q
      | exc x σ2 => rw [hb] at q; exact q
      | bad => rw [hb] at q; exact q
theorem wWhile (t : Te Cx) (b : St Cx) (Pv : VEnv → Prop) (μ : VEnv → Nat) (h0 : Pv σ) (hm : μ σ < 1048576) (turn : ∀ σ, Pv σ → wV (t.v σ) (fun c σ1 => if c then wS (b.v σ1) ⟨fun σ2 => Pv σ2 ∧ μ σ2 < μ σ, k.rt, k.nx, fun σ2 => Pv σ2 ∧ μ σ2 < μ σ, k.ex⟩ else k.nx σ1) k.ex) : wS ((St.while' t b).v σ) k := by
  rw [s_while']
  exact while_by t.v b.v Pv μ turn TURNS σ (by rw [TURNS_is]; exact hm) h0
end
/-! ### repr -/
mutual
/-- how long a text may get -/
def P.wt : P → Nat
  | .non => 5
  | .bl _ => 5
  | .int _ => 600
  | .str s => s.length + 2
  | .tup ds => 3 + P.wts ds
  | .lst ds => 3 + P.wts ds
  | .scr _ => 0
  | .dct _ _ => 0
  | .ins _ _ _ => 0
def P.wts : List P → Nat
  | [] => 0
  | p :: r => P.wt p + 2 + P.wts r
end
mutual
/-- what repr may be asked of -/
def P.sh : P → Bool
  | .non => true
  | .bl _ => true
  | .int i => decide (i.natAbs < 10 ^ 250)
  | .str s => s.all plainC
  | .tup ds => P.shs ds
  | .lst ds => P.shs ds
  | .scr _ => false
  | .dct _ _ => false
  | .ins _ _ _ => false
def P.shs : List P → Bool
  | [] => true
  | p :: r => P.sh p && P.shs r
end

theorem int_lenK {i : Int} {k : Nat} (hk : 0 < k) (h : i.natAbs < 10 ^ k) : (toString i).toList.length ≤ k + 1 := by
  have e : (toString i).toList.length = (toString i).length := rfl
  cases i with
  | ofNat m =>
    have e2 : toString (Int.ofNat m) = m.repr := rfl
    have := (Nat.length_repr_le_iff (n := m) hk).mpr h
    rw [e, e2]
    omega
  | negSucc m =>
    have e2 : toString (Int.negSucc m) = "-" ++ (m + 1).repr := rfl
    have h2 := (Nat.length_repr_le_iff (n := m + 1) hk).mpr h
    have h3 : ("-" : String).length = 1 := rfl
    rw [e, e2, String.length_append]
    omega
theorem int_len {i : Int} (h : i.natAbs < 10 ^ 250) : (toString i).toList.length ≤ 600 := Nat.le_trans (int_lenK (by decide) h) (by decide)
theorem log2_250 {n : Nat} (h : n < 10 ^ 250) : n.log2 < 1920 := by
  by_cases h0 : n = 0
  · subst h0; decide
  · rw [Nat.log2_lt h0]
    exact Nat.lt_of_lt_of_le h (by decide +kernel)
theorem commas_len : ∀ ts : List (List Char), (commas ts).length ≤ (ts.map fun t => t.length + 2).sum
  | [] => by simp [commas]
  | [x] => by simp [commas]
  | x :: y :: r => by
    have := commas_len (y :: r)
    simp only [commas, List.length_append, List.map_cons, List.sum_cons, List.length_cons, List.length_nil] at this ⊢
    omega
mutual
theorem shows_ok : ∀ p : P, p.sh = true → ∃ s, p.shows = some s ∧ s.length ≤ p.wt
  | .non, _ => ⟨['N', 'o', 'n', 'e'], by simp only [P.shows], by simp [P.wt]⟩
  | .bl b, _ => ⟨if b then ['T', 'r', 'u', 'e'] else ['F', 'a', 'l', 's', 'e'], by simp only [P.shows], by cases b <;> simp [P.wt]⟩
  | .int i, h => by
    simp only [P.sh, decide_eq_true_eq] at h
    exact ⟨_, by simp only [P.shows]; rw [if_pos (log2_250 h)], by simp only [P.wt]; exact int_len h⟩
  | .str s, h => by
    simp only [P.sh] at h
    exact ⟨_, by simp only [P.shows]; rw [if_pos h], by simp [P.wt]⟩
  | .tup ds, h => by
    simp only [P.sh] at h
    obtain ⟨ts, h1, h2⟩ := shows_oks ds h
    refine ⟨tupT ts, by simp only [P.shows, h1, Option.map_some], ?_⟩
    have := commas_len ts
    have : (if (ts.length == 1) = true then [',', ')'] else [')'] : List Char).length ≤ 2 := by split <;> simp
    simp only [tupT, P.wt, List.length_append, List.length_cons, List.length_nil]
    omega
  | .lst ds, h => by
    simp only [P.sh] at h
    obtain ⟨ts, h1, h2⟩ := shows_oks ds h
    refine ⟨lstT ts, by simp only [P.shows, h1, Option.map_some], ?_⟩
    have := commas_len ts
    simp only [lstT, P.wt, List.length_append, List.length_cons, List.length_nil]
    omega
  | .scr _, h => by simp [P.sh] at h
  | .dct _ _, h => by simp [P.sh] at h
  | .ins _ _ _, h => by simp [P.sh] at h
theorem shows_oks : ∀ p : List P, P.shs p = true → ∃ s, P.showsL p = some s ∧ (s.map fun t => t.length + 2).sum ≤ P.wts p
  | [], _ => ⟨[], by simp only [P.showsL], by simp⟩
  | p :: r, h => by
    simp only [P.shs, Bool.and_eq_true] at h
    obtain ⟨s, h1, h2⟩ := shows_ok p h.1
    obtain ⟨t, h3, h4⟩ := shows_oks r h.2
    refine ⟨s :: t, by simp only [P.showsL, h1, h3], ?_⟩
    simp only [P.wts, List.map_cons, List.sum_cons]
    omega
end
theorem repr_ok {p : P} (h : p.sh = true) (hl : p.le 60 = true) (hw : p.wt ≤ LINE) : ∃ s, reprP p = some (.fz (.str s)) ∧ s.length ≤ LINE := by
  obtain ⟨s, h1, h2⟩ := shows_ok p h
  have h3 : s.length ≤ LINE := Nat.le_trans h2 hw
  exact ⟨s, by unfold reprP; rw [if_pos hl, h1, Option.bind_some, if_pos h3], h3⟩
end Py
end

section
set_option autoImplicit false
set_option linter.all false
/-! try / except .. as over trees: suites that ask for the exception's class and fields, and answer, or append to a list. -/
namespace Py
/-- the exception in hand stands in slot i, its fields (fd) at b -/
def At (i : Nat) (e : Exc) (fd : Option (List (String × D))) (a b : Nat) (ρ : Env) (g : G) : Prop := ρ[i]? = some (some (.adr a)) ∧ match e.at_, fd with
  | none, none => True
  | some r, some ds => g[r]? = some (.xda b ds)
  | _, _ => False
/-- what is known of its fields -/
def Xf (g : G) (F : Fz) (x : VX) (e : Exc) (fd : Option (List (String × D))) : Prop := e.cls = x.cls ∧ match x.fs, fd, e.at_ with
  | none, none, none => True
  | some fs, some ds, some _ => ds.map Prod.fst = fs.map Prod.fst ∧ frs g F (fs.map Prod.snd) (ds.map Prod.snd)
  | _, _, _ => False
structure XE (i : Nat) where
  m : Exc → Nat → Nat → M
  v : VX → Option P
  ok : ∀ (x : VX) (e : Exc) (fd : Option (List (String × D))) (g : G) (F : Fz) (p : P), Xf g F x e fd → v x = some p → ∃ d, fr g F p d ∧ ∀ a b ρ g', At i e fd a b ρ g' → m e a b ρ g' = .ok d g'
structure XL (i : Nat) where
  m : Exc → Nat → Nat → A
  v : VX → Option (List P)
  ok : ∀ (x : VX) (e : Exc) (fd : Option (List (String × D))) (g : G) (F : Fz) (ps : List P), Xf g F x e fd → v x = some ps → ∃ ds, frs g F ps ds ∧ ∀ a b ρ g', At i e fd a b ρ g' → m e a b ρ g' = .ok ds g'
structure XT (i : Nat) where
  m : Exc → Nat → Nat → T
  v : VX → Option Bool
  ok : ∀ (x : VX) (e : Exc) (fd : Option (List (String × D))) (g : G) (F : Fz) (c : Bool), Xf g F x e fd → v x = some c → ∀ a b ρ g', At i e fd a b ρ g' → m e a b ρ g' = .ok c g'
section
variable {i : Nat}
def XE.str (s : List Char) : XE i := ⟨fun _ _ _ => mC (.str s), fun _ => some (.str s), fun x e fd g F p _ h => by cases h; exact ⟨_, rfl, fun _ _ _ _ _ => rfl⟩⟩
def XE.int (s : Int) : XE i := ⟨fun _ _ _ => mC (.int s), fun _ => some (.int s), fun x e fd g F p _ h => by cases h; exact ⟨_, rfl, fun _ _ _ _ _ => rfl⟩⟩
def XE.bl (s : Bool) : XE i := ⟨fun _ _ _ => mC (.bl s), fun _ => some (.bl s), fun x e fd g F p _ h => by cases h; exact ⟨_, rfl, fun _ _ _ _ _ => rfl⟩⟩
def XE.non : XE i := ⟨fun _ _ _ => mC .non, fun _ => some .non, fun x e fd g F p _ h => by cases h; exact ⟨_, rfl, fun _ _ _ _ _ => rfl⟩⟩
def XE.isE (cl : String → Option Bool) : XE i := ⟨fun e a b => mIsE cl i e a b, fun x => (cl x.cls).map .bl, fun x e fd g F p hx h => by
  simp only [Option.map_eq_some_iff] at h
  obtain ⟨c, hc, rfl⟩ := h
  refine ⟨.bl c, rfl, fun a b ρ g' ha => ?_⟩
  obtain ⟨h1, h2⟩ := ha
  rw [← hx.1] at hc
  obtain ⟨ec, q⟩ := e
  unfold mIsE
  rw [h1]
  dsimp only
  rw [if_pos rfl]
  cases q with
  | none => dsimp only at hc ⊢; rw [hc]; rfl
  | some r =>
    cases fd with
    | none => exact h2.elim
    | some ds =>
      dsimp only at hc h2 ⊢
      rw [h2]
      dsimp only
      rw [if_pos rfl, hc]; rfl⟩
theorem look_frs {g : G} {F : Fz} {f : String} : ∀ {fs : List (String × P)} {ds : List (String × D)} {p : P}, ds.map Prod.fst = fs.map Prod.fst → frs g F (fs.map Prod.snd) (ds.map Prod.snd) → fs.lookup f = some p → ∃ d, ds.lookup f = some d ∧ fr g F p d
  | [], _, _, _, _, h => by cases h
  | (x, q) :: fs, [], _, e, _, _ => by cases e
  | (x, q) :: fs, (y, d) :: ds, p, e, h, l => by
    simp only [List.map_cons, List.cons.injEq] at e
    obtain ⟨rfl, e⟩ := e
    obtain ⟨d', r, e1, h1, h2⟩ := h
    simp only [List.map_cons, List.cons.injEq] at e1
    obtain ⟨rfl, rfl⟩ := e1
    simp only [List.lookup] at l ⊢
    split at l
    · cases l; exact ⟨d, rfl, h1⟩
    · exact look_frs e h2 l
def XE.fld (f : String) (cs : List String) : XE i := ⟨fun e a b => mFldC cs f i e a b, fun x => if cs.contains x.cls then x.fs.bind fun fs => fs.lookup f else none, fun x e fd g F p hx h => by
  split at h
  · rename_i hc
    simp only [Option.bind_eq_some_iff] at h
    obtain ⟨fs, e1, e2⟩ := h
    obtain ⟨h0, h1⟩ := hx
    obtain ⟨ec, q⟩ := e
    rw [e1] at h1
    cases fd with
    | none => exact h1.elim
    | some ds =>
      cases q with
      | none => exact h1.elim
      | some r =>
        dsimp only at h0 h1
        obtain ⟨d, l1, l2⟩ := look_frs h1.1 h1.2 e2
        refine ⟨d, l2, fun a b ρ g' ha => ?_⟩
        obtain ⟨a1, a2⟩ := ha
        dsimp only at a2
        unfold mFldC mFldE
        dsimp only
        rw [h0, if_pos hc, a1]
        dsimp only
        rw [if_pos rfl, a2]
        dsimp only
        rw [if_pos rfl, l1]; rfl
  · cases h⟩
def XL.nil : XL i := ⟨fun _ _ _ => mNil, fun _ => some [], fun x e fd g F p _ h => by cases h; exact ⟨[], rfl, fun _ _ _ _ _ => rfl⟩⟩
def XL.cons (y : XE i) (ys : XL i) : XL i := ⟨fun e a b => mCons (y.m e a b) (ys.m e a b), fun x => match y.v x, ys.v x with | some p, some ps => some (p :: ps) | _, _ => none, fun x e fd g F p hx h => by
  split at h
  · rename_i q qs h1 h2
    cases h
    obtain ⟨d, d1, d2⟩ := y.ok x e fd g F q hx h1
    obtain ⟨ds, d3, d4⟩ := ys.ok x e fd g F qs hx h2
    refine ⟨d :: ds, ⟨d, ds, rfl, d1, d3⟩, fun a b ρ g' ha => ?_⟩
    unfold mCons
    rw [d2 a b ρ g' ha, R.bind_ok, d4 a b ρ g' ha]; rfl
  · cases h⟩
def XE.tup (ys : XL i) : XE i := ⟨fun e a b => mTup (ys.m e a b), fun x => (ys.v x).bind fun ps => if ps.length ≤ LINE then some (.tup ps) else none, fun x e fd g F p hx h => by
  simp only [Option.bind_eq_some_iff] at h
  obtain ⟨ps, h1, h2⟩ := h
  split at h2
  · rename_i hl
    cases h2
    obtain ⟨ds, d1, d2⟩ := ys.ok x e fd g F ps hx h1
    refine ⟨.tup ds, ⟨ds, rfl, d1⟩, fun a b ρ g' ha => ?_⟩
    unfold mTup
    rw [d2 a b ρ g' ha, R.bind_ok, if_pos (by rw [frs_len d1]; exact hl)]
  · cases h2⟩
/-- truth values -/
def blP : Option P → Option Bool
  | some (.bl c) => some c
  | _ => none
theorem blP_some {o : Option P} {c : Bool} (h : blP o = some c) : o = some (.bl c) := by
  cases o with
  | none => cases h
  | some p => cases p <;> first | (cases h; rfl) | (cases h; done)
def XE.not (y : XE i) : XE i := ⟨fun e a b => mNot (y.m e a b), fun x => (blP (y.v x)).map fun c => .bl (!c), fun x e fd g F p hx h => by
  simp only [Option.map_eq_some_iff] at h
  obtain ⟨c, h1, rfl⟩ := h
  obtain ⟨d, d1, d2⟩ := y.ok x e fd g F _ hx (blP_some h1)
  cases d1
  exact ⟨.bl (!c), rfl, fun a b ρ g' ha => by unfold mNot; rw [d2 a b ρ g' ha]; rfl⟩⟩
def XE.and (y z : XE i) : XE i := ⟨fun e a b => mAnd (y.m e a b) (z.m e a b), fun x => (blP (y.v x)).bind fun c => if c then z.v x else some (.bl false), fun x e fd g F p hx h => by
  simp only [Option.bind_eq_some_iff] at h
  obtain ⟨c, h1, h2⟩ := h
  obtain ⟨d, d1, d2⟩ := y.ok x e fd g F _ hx (blP_some h1)
  cases d1
  cases c with
  | true =>
    obtain ⟨d, d3, d4⟩ := z.ok x e fd g F _ hx h2
    exact ⟨d, d3, fun a b ρ g' ha => by unfold mAnd; rw [d2 a b ρ g' ha]; exact d4 a b ρ g' ha⟩
  | false => cases h2; exact ⟨.bl false, rfl, fun a b ρ g' ha => by unfold mAnd; rw [d2 a b ρ g' ha]; rfl⟩⟩
def XE.or (y z : XE i) : XE i := ⟨fun e a b => mOr (y.m e a b) (z.m e a b), fun x => (blP (y.v x)).bind fun c => if c then some (.bl true) else z.v x, fun x e fd g F p hx h => by
  simp only [Option.bind_eq_some_iff] at h
  obtain ⟨c, h1, h2⟩ := h
  obtain ⟨d, d1, d2⟩ := y.ok x e fd g F _ hx (blP_some h1)
  cases d1
  cases c with
  | false =>
    obtain ⟨d, d3, d4⟩ := z.ok x e fd g F _ hx h2
    exact ⟨d, d3, fun a b ρ g' ha => by unfold mOr; rw [d2 a b ρ g' ha]; exact d4 a b ρ g' ha⟩
  | true => cases h2; exact ⟨.bl true, rfl, fun a b ρ g' ha => by unfold mOr; rw [d2 a b ρ g' ha]; rfl⟩⟩
def XT.val (y : XE i) : XT i := ⟨fun e a b => tVal (y.m e a b), fun x => blP (y.v x), fun x e fd g F c hx h => by
  obtain ⟨d, d1, d2⟩ := y.ok x e fd g F _ hx (blP_some h)
  cases d1
  exact fun a b ρ g' ha => by unfold tVal; rw [d2 a b ρ g' ha]; rfl⟩
def XT.not (y : XT i) : XT i := ⟨fun e a b => tNot (y.m e a b), fun x => (y.v x).map (!·), fun x e fd g F c hx h => by
  simp only [Option.map_eq_some_iff] at h
  obtain ⟨c, h1, rfl⟩ := h
  exact fun a b ρ g' ha => by unfold tNot; rw [y.ok x e fd g F _ hx h1 a b ρ g' ha]; rfl⟩
def XT.and (y z : XT i) : XT i := ⟨fun e a b => tAnd (y.m e a b) (z.m e a b), fun x => (y.v x).bind fun c => if c then z.v x else some false, fun x e fd g F c hx h => by
  simp only [Option.bind_eq_some_iff] at h
  obtain ⟨c1, h1, h2⟩ := h
  intro a b ρ g' ha
  unfold tAnd
  rw [y.ok x e fd g F _ hx h1 a b ρ g' ha]
  cases c1 with
  | true => exact z.ok x e fd g F _ hx h2 a b ρ g' ha
  | false => cases h2; rfl⟩
def XT.or (y z : XT i) : XT i := ⟨fun e a b => tOr (y.m e a b) (z.m e a b), fun x => (y.v x).bind fun c => if c then some true else z.v x, fun x e fd g F c hx h => by
  simp only [Option.bind_eq_some_iff] at h
  obtain ⟨c1, h1, h2⟩ := h
  intro a b ρ g' ha
  unfold tOr
  rw [y.ok x e fd g F _ hx h1 a b ρ g' ha]
  cases c1 with
  | false => exact z.ok x e fd g F _ hx h2 a b ρ g' ha
  | true => cases h2; rfl⟩
/-! suites that answer -/
def RetOk (i : Nat) (e : Exc) (fd : Option (List (String × D))) (g : G) (F : Fz) (s : Nat → Nat → S) : Option P → Prop
  | some p => ∃ d, fr g F p d ∧ ∀ a b ρ g', At i e fd a b ρ g' → s a b ρ g' = .ret d g'
  | none => ∀ a b ρ g', At i e fd a b ρ g' → s a b ρ g' = .next ρ g'
theorem RetOk.of {i : Nat} {e : Exc} {fd : Option (List (String × D))} {g : G} {F : Fz} {s s' : Nat → Nat → S} {o : Option P} (h : RetOk i e fd g F s o) (q : ∀ a b ρ g', At i e fd a b ρ g' → s' a b ρ g' = s a b ρ g') : RetOk i e fd g F s' o := by
  cases o with
  | some p => obtain ⟨d, d1, d2⟩ := h; exact ⟨d, d1, fun a b ρ g' ha => (q a b ρ g' ha).trans (d2 a b ρ g' ha)⟩
  | none => exact fun a b ρ g' ha => (q a b ρ g' ha).trans (h a b ρ g' ha)
structure XR (i : Nat) where
  m : Exc → Nat → Nat → S
  v : VX → Option (Option P)
  ok : ∀ (x : VX) (e : Exc) (fd : Option (List (String × D))) (g : G) (F : Fz) (o : Option P), Xf g F x e fd → v x = some o → RetOk i e fd g F (m e) o
def XR.nil : XR i := ⟨fun _ _ _ => sNil, fun _ => some none, fun x e fd g F o _ h => by cases h; exact fun _ _ _ _ _ => rfl⟩
def XR.ret (y : XE i) : XR i := ⟨fun e a b => sRet (y.m e a b), fun x => (y.v x).map some, fun x e fd g F o hx h => by
  simp only [Option.map_eq_some_iff] at h
  obtain ⟨p, h1, rfl⟩ := h
  obtain ⟨d, d1, d2⟩ := y.ok x e fd g F p hx h1
  exact ⟨d, d1, fun a b ρ g' ha => by show sRet _ _ _ = _; unfold sRet; rw [d2 a b ρ g' ha]; rfl⟩⟩
def XR.ite (t : XT i) (y z : XR i) : XR i := ⟨fun e a b => sIf (t.m e a b) (y.m e a b) (z.m e a b), fun x => (t.v x).bind fun c => if c then y.v x else z.v x, fun x e fd g F o hx h => by
  simp only [Option.bind_eq_some_iff] at h
  obtain ⟨c, h1, h2⟩ := h
  have ht := t.ok x e fd g F c hx h1
  cases c with
  | true => exact (y.ok x e fd g F o hx h2).of fun a b ρ g' ha => by unfold sIf; rw [ht a b ρ g' ha]; rfl
  | false => exact (z.ok x e fd g F o hx h2).of fun a b ρ g' ha => by unfold sIf; rw [ht a b ρ g' ha]; rfl⟩
def XR.seq (y z : XR i) : XR i := ⟨fun e a b => sSeq (y.m e a b) (z.m e a b), fun x => (y.v x).bind fun o => match o with | some p => some (some p) | none => z.v x, fun x e fd g F o hx h => by
  simp only [Option.bind_eq_some_iff] at h
  obtain ⟨o1, h1, h2⟩ := h
  have hy := y.ok x e fd g F o1 hx h1
  cases o1 with
  | some p =>
    cases h2
    obtain ⟨d, d1, d2⟩ := hy
    exact ⟨d, d1, fun a b ρ g' ha => by show sSeq _ _ _ _ = _; unfold sSeq; rw [d2 a b ρ g' ha]⟩
  | none =>
    exact (z.ok x e fd g F o hx h2).of fun a b ρ g' ha => by unfold sSeq; rw [hy a b ρ g' ha]⟩
/-! suites that append to the list in slot k -/
structure XA (i k : Nat) where
  m : Exc → Nat → Nat → S
  v : VX → Option (List P)
  ok : ∀ (x : VX) (e : Exc) (fd : Option (List (String × D))) (g : G) (F : Fz) (ys : List P), Xf g F x e fd → v x = some ys → ∃ ds, frs g F ys ds ∧ ∀ a b ρ g' rk xs, At i e fd a b ρ g' → ρ[k]? = some (some (.ref rk)) → g'[rk]? = some (.lst xs) → xs.length + ds.length ≤ LINE →
    m e a b ρ g' = .next ρ (g'.set rk (.lst (xs ++ ds)))
variable {k : Nat}
theorem At_set {e : Exc} {fd : Option (List (String × D))} {a b : Nat} {ρ : Env} {g : G} {rk : Nat} {xs ys : List D} (h : At i e fd a b ρ g) (hk : g[rk]? = some (.lst xs)) : At i e fd a b ρ (g.set rk (.lst ys)) := by
  refine ⟨h.1, ?_⟩
  have h2 := h.2
  obtain ⟨c, q⟩ := e
  cases q with
  | none => cases fd with
    | none => trivial
    | some _ => exact h2.elim
  | some r =>
    cases fd with
    | none => exact h2.elim
    | some ds =>
      dsimp only at h2 ⊢
      rw [List.getElem?_set_ne]
      · exact h2
      · rintro rfl; rw [hk] at h2; cases h2
def XA.nil : XA i k := ⟨fun _ _ _ => sNil, fun _ => some [], fun x e fd g F ys _ h => by
  cases h
  refine ⟨[], rfl, fun a b ρ g' rk xs ha h1 h2 hl => ?_⟩
  rw [List.append_nil]
  have : g'.set rk (.lst xs) = g' := by
    obtain ⟨hl, e⟩ := List.getElem?_eq_some_iff.mp h2
    rw [← e]; exact List.set_getElem_self hl
  rw [this]; rfl⟩
def XA.app (y : XE i) : XA i k := ⟨fun e a b => sExpr (mApp (mVar k) (y.m e a b)), fun x => (y.v x).map fun p => [p], fun x e fd g F ys hx h => by
  simp only [Option.map_eq_some_iff] at h
  obtain ⟨p, h1, rfl⟩ := h
  obtain ⟨d, d1, d2⟩ := y.ok x e fd g F p hx h1
  refine ⟨[d], frs_one d1, fun a b ρ g' rk xs ha e1 e2 hl => ?_⟩
  unfold sExpr mApp
  rw [var_ok e1, R.bind_ok, if_pos (by rw [lstOf_lst e2]; rfl), d2 a b ρ g' ha, R.bind_ok]
  unfold oAppend
  rw [mutOf_lst e2]
  dsimp only
  rw [if_pos (Nat.lt_of_succ_le (by simpa using hl))]
  rfl⟩
def XA.ite (t : XT i) (y z : XA i k) : XA i k := ⟨fun e a b => sIf (t.m e a b) (y.m e a b) (z.m e a b), fun x => (t.v x).bind fun c => if c then y.v x else z.v x, fun x e fd g F ys hx h => by
  simp only [Option.bind_eq_some_iff] at h
  obtain ⟨c, h1, h2⟩ := h
  have ht := t.ok x e fd g F c hx h1
  cases c with
  | true =>
    obtain ⟨ds, d1, d2⟩ := y.ok x e fd g F ys hx h2
    exact ⟨ds, d1, fun a b ρ g' rk xs ha e1 e2 hl => by unfold sIf; rw [ht a b ρ g' ha]; exact d2 a b ρ g' rk xs ha e1 e2 hl⟩
  | false =>
    obtain ⟨ds, d1, d2⟩ := z.ok x e fd g F ys hx h2
    exact ⟨ds, d1, fun a b ρ g' rk xs ha e1 e2 hl => by unfold sIf; rw [ht a b ρ g' ha]; exact d2 a b ρ g' rk xs ha e1 e2 hl⟩⟩
def XA.seq (y z : XA i k) : XA i k := ⟨fun e a b => sSeq (y.m e a b) (z.m e a b), fun x => match y.v x, z.v x with | some p, some q => some (p ++ q) | _, _ => none, fun x e fd g F ys hx h => by
  split at h
  · rename_i p q h1 h2
    cases h
    obtain ⟨ds, d1, d2⟩ := y.ok x e fd g F p hx h1
    obtain ⟨es, d3, d4⟩ := z.ok x e fd g F q hx h2
    refine ⟨ds ++ es, frs_append d1 d3, fun a b ρ g' rk xs ha e1 e2 hl => ?_⟩
    rw [List.length_append] at hl
    unfold sSeq
    rw [d2 a b ρ g' rk xs ha e1 e2 (by omega)]
    dsimp only
    rw [d4 a b ρ (g'.set rk (.lst (xs ++ ds))) rk (xs ++ ds) (At_set ha e2) e1 (List.getElem?_set_self (List.getElem?_eq_some_iff.mp e2).1) (by rw [List.length_append]; omega), List.set_set, List.append_assoc]
  · cases h⟩
end
/-! ### try -/
theorem env_drop {g : G} {F : Fz} {σ : VEnv} {ρ : Env} {As : Own} {i : Nat} (h : env [] g F σ ρ As) : env [] g F (σ.set i none) (ρ.set i none) As := ⟨by simp [h.1], fun j u hu => by
  by_cases e : j = i
  · subst e
    have hl : j < σ.length := by have := (List.getElem?_eq_some_iff.mp hu).1; simpa using this
    rw [List.getElem?_set_self hl] at hu
    cases hu
  · rw [List.getElem?_set_ne (Ne.symm e)] at hu ⊢
    exact h.2 j u hu, fun _ h => by cases h⟩
/-- the fields of an exception in flight -/
theorem xr_fd {g : G} {F : Fz} {x : VX} {e : Exc} (h : xr g F x e) : ∃ fd, Xf g F x e fd ∧ ∀ (i a b : Nat) (ρ : Env), i < ρ.length → At i e fd a b (ρ.set i (some (.adr a))) (pinX e.at_ b g) ∧ unpinX e.at_ (pinX e.at_ b g) = g ∧
    ∀ rk xs ys, g[rk]? = some (.lst xs) → (pinX e.at_ b g)[rk]? = some (.lst xs) ∧ unpinX e.at_ ((pinX e.at_ b g).set rk (.lst ys)) = g.set rk (.lst ys) := by
  obtain ⟨h0, h1⟩ := h
  obtain ⟨c, q⟩ := e
  cases hf : x.fs with
  | none =>
    rw [hf] at h1
    cases q with
    | some r => exact h1.elim
    | none => exact ⟨none, ⟨h0, by rw [hf]; trivial⟩, fun i a b ρ hi => ⟨⟨List.getElem?_set_self hi, trivial⟩, rfl, fun rk xs ys hk => ⟨hk, rfl⟩⟩⟩
  | some fs =>
    rw [hf] at h1
    cases q with
    | none => exact h1.elim
    | some r =>
      obtain ⟨hr, ds, e1, e2, e3⟩ := h1
      have hl := (List.getElem?_eq_some_iff.mp e1).1
      refine ⟨some ds, ⟨h0, by rw [hf]; exact ⟨e2, e3⟩⟩, fun i a b ρ hi => ?_⟩
      have ep : pinX (some r) b g = g.set r (.xda b ds) := by unfold pinX; dsimp only; rw [e1]
      dsimp only
      rw [ep]
      have back : g.set r (.xd ds) = g := by
        obtain ⟨hl, e⟩ := List.getElem?_eq_some_iff.mp e1
        rw [← e]; exact List.set_getElem_self hl
      refine ⟨⟨List.getElem?_set_self hi, List.getElem?_set_self hl⟩, ?_, fun rk xs ys hk => ?_⟩
      · unfold unpinX
        dsimp only
        rw [List.getElem?_set_self hl]
        dsimp only
        rw [List.set_set]; exact back
      · have hne : r ≠ rk := by rintro rfl; rw [hk] at e1; cases e1
        refine ⟨by rw [List.getElem?_set_ne hne]; exact hk, ?_⟩
        unfold unpinX
        dsimp only
        rw [List.getElem?_set_ne (Ne.symm hne), List.getElem?_set_self hl]
        dsimp only
        rw [List.set_comm _ _ (Ne.symm hne), List.set_set, back]
def tryAV (b : VEnv → VS) (cl : String → Option Bool) (i k : Nat) (su : VX → Option (List P)) : VEnv → VS := fun σ => match b σ with
  | .exc x σ1 => match cl x.cls with
    | some true => match su x, σ1[k]? with
      | some ys, some (some (.own ps)) => if k ≠ i ∧ i < σ1.length ∧ ps.length + ys.length ≤ LINE then .next ((σ1.set k (some (.own (ps ++ ys)))).set i none) else .bad
      | _, _ => .bad
    | some false => .exc x σ1
    | none => .bad
  | r => r
noncomputable def St.tryA (i k : Nat) (b : St []) (cl : String → Option Bool) (su : XA i k) : St [] := ⟨sTryAs b.m cl i su.m, tryAV b.v cl i k su.v, b.asg ++ [i], fun ρ σ g F As h iv => by
  have hb := b.ok ρ σ g F As h iv
  unfold tryAV sTryAs
  cases hv : b.v σ with
  | next σ1 => rw [hv] at hb; obtain ⟨_, _, _, _, e, q⟩ := hb; rw [e]; exact ⟨_, _, _, _, rfl, q.wk fun _ => List.mem_append_left _⟩
  | bad => trivial
  | brk σ1 => rw [hv] at hb; obtain ⟨_, _, _, _, e, q⟩ := hb; rw [e]; exact ⟨_, _, _, _, rfl, q.wk fun _ => List.mem_append_left _⟩
  | cont σ1 => rw [hv] at hb; obtain ⟨_, _, _, _, e, q⟩ := hb; rw [e]; exact ⟨_, _, _, _, rfl, q.wk fun _ => List.mem_append_left _⟩
  | ret u σ1 => rw [hv] at hb; obtain ⟨_, _, _, _, _, _, e, e2, q⟩ := hb; rw [e]; exact ⟨_, _, _, _, _, _, rfl, e2, q.wk fun _ => List.mem_append_left _⟩
  | exc x σ1 =>
    rw [hv] at hb
    obtain ⟨e, ρ1, g1, F1, As1, eb, hx, q⟩ := hb
    rw [eb]
    dsimp only
    rw [hx.1]
    cases hc : cl x.cls with
    | none => trivial
    | some c =>
      cases c with
      | false => exact ⟨e, ρ1, g1, F1, As1, rfl, hx, q.wk fun _ => List.mem_append_left _⟩
      | true =>
        dsimp only
        cases hs : su.v x with
        | none => trivial
        | some ys =>
          cases hk : σ1[k]? with
          | none => trivial
          | some o =>
            cases o with
            | none => trivial
            | some u =>
              cases u with
              | fz _ => trivial
              | tup _ => trivial
              | nst _ => trivial
              | own ps =>
                dsimp only
                by_cases hl : k ≠ i ∧ i < σ1.length ∧ ps.length + ys.length ≤ LINE
                · rw [if_pos hl]
                  obtain ⟨hki, hil, hlen⟩ := hl
                  obtain ⟨fd, hf, hp⟩ := xr_fd hx
                  obtain ⟨d, hd, rk, xs, rfl, hxs, hps, hA⟩ := q.env.2 k _ hk
                  obtain ⟨ds, hds, run⟩ := su.ok x e fd g1 F1 ys hf hs
                  have hil : i < ρ1.length := by rw [← q.env.1]; exact hil
                  have same : ∀ a b, (su.m e a b (ρ1.set i (some (.adr a))) (pinX e.at_ b g1)).clean i e.at_ = .next (ρ1.set i none) (g1.set rk (.lst (xs ++ ds))) := fun a b => by
                    obtain ⟨p1, p2, p3⟩ := hp i a b ρ1 hil
                    obtain ⟨p4, p5⟩ := p3 rk xs (xs ++ ds) hxs
                    rw [run a b _ _ rk xs p1 (by rw [List.getElem?_set_ne (Ne.symm hki)]; exact hd) p4 (by rw [frs_len hps, frs_len hds]; exact hlen)]
                    simp only [SR.clean]
                    rw [p5, List.set_set]
                  rw [same_for_eq same]
                  obtain ⟨w1, w2, w3⟩ := wr_slot (u' := .own (ps ++ ys)) (A' := [rk]) (xs' := xs ++ ds) q.env q.iv hd (by rw [hA]; simp)
                    ⟨rk, _, rfl, List.getElem?_set_self (List.getElem?_eq_some_iff.mp hxs).1, frs_go (fun _ => id) (kp_set (q.iv.nf rk (.inr ⟨k, by rw [hA]; simp⟩))) _ _ (frs_append hps hds), rfl⟩ (fun a ha => .inl (by rw [hA]; exact ha)) (by simp)
                  exact ⟨_, _, F1, _, rfl, env_drop w1, w2, q.sp.trans w3, fun j hj => by
                    simp only [List.mem_append, List.mem_singleton, not_or] at hj
                    rw [List.getElem?_set_ne (Ne.symm hj.2)]
                    exact q.ag j hj.1, by rw [List.length_set]; exact q.ln⟩
                · rw [if_neg hl]; trivial⟩
def tryRV (b : VEnv → VS) (cl : String → Option Bool) (i : Nat) (su : VX → Option (Option P)) : VEnv → VS := fun σ => match b σ with
  | .exc x σ1 => match cl x.cls with
    | some true => if i < σ1.length then match su x with
      | some (some p) => .ret (.fz p) (σ1.set i none)
      | some none => .next (σ1.set i none)
      | none => .bad else .bad
    | some false => .exc x σ1
    | none => .bad
  | r => r
noncomputable def St.tryR (i : Nat) (b : St []) (cl : String → Option Bool) (su : XR i) : St [] := ⟨sTryAs b.m cl i su.m, tryRV b.v cl i su.v, b.asg ++ [i], fun ρ σ g F As h iv => by
  have hb := b.ok ρ σ g F As h iv
  unfold tryRV sTryAs
  cases hv : b.v σ with
  | next σ1 => rw [hv] at hb; obtain ⟨_, _, _, _, e, q⟩ := hb; rw [e]; exact ⟨_, _, _, _, rfl, q.wk fun _ => List.mem_append_left _⟩
  | bad => trivial
  | brk σ1 => rw [hv] at hb; obtain ⟨_, _, _, _, e, q⟩ := hb; rw [e]; exact ⟨_, _, _, _, rfl, q.wk fun _ => List.mem_append_left _⟩
  | cont σ1 => rw [hv] at hb; obtain ⟨_, _, _, _, e, q⟩ := hb; rw [e]; exact ⟨_, _, _, _, rfl, q.wk fun _ => List.mem_append_left _⟩
  | ret u σ1 => rw [hv] at hb; obtain ⟨_, _, _, _, _, _, e, e2, q⟩ := hb; rw [e]; exact ⟨_, _, _, _, _, _, rfl, e2, q.wk fun _ => List.mem_append_left _⟩
  | exc x σ1 =>
    rw [hv] at hb
    obtain ⟨e, ρ1, g1, F1, As1, eb, hx, q⟩ := hb
    rw [eb]
    dsimp only
    rw [hx.1]
    cases hc : cl x.cls with
    | none => trivial
    | some c =>
      cases c with
      | false => exact ⟨e, ρ1, g1, F1, As1, rfl, hx, q.wk fun _ => List.mem_append_left _⟩
      | true =>
        dsimp only
        by_cases hil : i < σ1.length
        · rw [if_pos hil]
          have hil : i < ρ1.length := by rw [← q.env.1]; exact hil
          obtain ⟨fd, hf, hp⟩ := xr_fd hx
          have ag : ∀ j, j ∉ b.asg ++ [i] → (ρ1.set i none)[j]? = ρ[j]? := fun j hj => by
            simp only [List.mem_append, List.mem_singleton, not_or] at hj
            rw [List.getElem?_set_ne (Ne.symm hj.2)]
            exact q.ag j hj.1
          have ln : (ρ1.set i none).length = ρ.length := by rw [List.length_set]; exact q.ln
          cases hs : su.v x with
          | none => trivial
          | some o =>
            have run := su.ok x e fd g1 F1 o hf hs
            cases o with
            | none =>
              have same : ∀ a b, (su.m e a b (ρ1.set i (some (.adr a))) (pinX e.at_ b g1)).clean i e.at_ = .next (ρ1.set i none) g1 := fun a b => by
                obtain ⟨p1, p2, p3⟩ := hp i a b ρ1 hil
                rw [run a b _ _ p1]
                simp only [SR.clean]
                rw [p2, List.set_set]
              dsimp only
              rw [same_for_eq same]
              exact ⟨_, _, F1, As1, rfl, env_drop q.env, q.iv, q.sp, ag, ln⟩
            | some p =>
              obtain ⟨d, d1, run⟩ := run
              have same : ∀ a b, (su.m e a b (ρ1.set i (some (.adr a))) (pinX e.at_ b g1)).clean i e.at_ = .ret d g1 := fun a b => by
                obtain ⟨p1, p2, p3⟩ := hp i a b ρ1 hil
                rw [run a b _ _ p1]
                simp only [SR.clean]
                rw [p2]
              dsimp only
              rw [same_for_eq same]
              exact ⟨d, _, g1, F1, As1, [], rfl, ⟨d1, rfl⟩, env_drop q.env, q.iv, q.sp, ag, ln⟩
        · rw [if_neg hil]; trivial⟩
/-! ### reasoning -/
section
variable {i k : Nat} {σ : VEnv} {K : Kv}
theorem s_tryA (b : St []) (cl : String → Option Bool) (su : XA i k) : wS ((St.tryA i k b cl su).v σ) K ↔ wS (b.v σ) { K with ex := fun x σ1 => match cl x.cls with
    | some true => (match su.v x, σ1[k]? with
      | some ys, some (some (.own ps)) => k ≠ i ∧ i < σ1.length ∧ ps.length + ys.length ≤ LINE ∧ K.nx ((σ1.set k (some (.own (ps ++ ys)))).set i none)
      | _, _ => False)
    | some false => K.ex x σ1
    | none => False } := by
  show wS (tryAV b.v cl i k su.v σ) K ↔ _
  unfold tryAV
  cases b.v σ with
  | exc x σ1 =>
    dsimp only [wS]
    cases cl x.cls with
    | none => rfl
    | some c =>
      cases c with
      | false => rfl
      | true =>
        dsimp only
        cases su.v x with
        | none => rfl
        | some ys =>
          cases σ1[k]? with
          | none => rfl
          | some o =>
            cases o with
            | none => rfl
            | some u =>
              cases u with
              | own ps =>
                dsimp only
                by_cases h : k ≠ i ∧ i < σ1.length ∧ ps.length + ys.length ≤ LINE
                · rw [if_pos h]; exact ⟨fun q => ⟨h.1, h.2.1, h.2.2, q⟩, fun q => q.2.2.2⟩
                · rw [if_neg h]; exact ⟨fun q => q.elim, fun q => h ⟨q.1, q.2.1, q.2.2.1⟩⟩
              | _ => rfl
  | _ => rfl
theorem s_tryR (b : St []) (cl : String → Option Bool) (su : XR i) : wS ((St.tryR i b cl su).v σ) K ↔ wS (b.v σ) { K with ex := fun x σ1 => match cl x.cls with
    | some true => i < σ1.length ∧ (match su.v x with
      | some (some p) => K.rt (.fz p) (σ1.set i none)
      | some none => K.nx (σ1.set i none)
      | none => False)
    | some false => K.ex x σ1
    | none => False } := by
  show wS (tryRV b.v cl i su.v σ) K ↔ _
  unfold tryRV
  cases b.v σ with
  | exc x σ1 =>
    dsimp only [wS]
    cases cl x.cls with
    | none => rfl
    | some c =>
      cases c with
      | false => rfl
      | true =>
        dsimp only
        by_cases h : i < σ1.length
        · rw [if_pos h]
          cases su.v x with
          | none => exact ⟨fun q => q.elim, fun q => q.2.elim⟩
          | some o => cases o with
            | none => exact ⟨fun q => ⟨h, q⟩, fun q => q.2⟩
            | some p => exact ⟨fun q => ⟨h, q⟩, fun q => q.2⟩
        · rw [if_neg h]; exact ⟨fun q => q.elim, fun q => h q.1⟩
  | _ => rfl
end
end Py
end

section
set_option autoImplicit false
set_option linter.all false
/-! More reasoning over trees. -/
namespace Py
theorem lc_id {t : U → VEnv → Option VEnv} {c : VT} {e : VM} {own : List Nat} {σ : VEnv} (cf : P → Bool) (ef : P → P) (xs : List P) (hl : xs.length < LINE) (hs : ∀ x, x ∈ xs → ∃ σ1, t (.fz x) σ = some σ1 ∧ c σ1 = .ok (cf x) σ1 ∧ (cf x = true → e σ1 = .ok (.u (.fz (ef x))) σ1) ∧ wipeV σ1 own = σ) :
    lcGoV t c e own xs σ [] = .ok (((xs.filter cf).map ef).map .fz) σ := by
  have := lc_map (f := id) cf ef xs hl hs
  rwa [List.map_id] at this
/-- no test -/
theorem lc_fn {t : U → VEnv → Option VEnv} {e : VM} {own : List Nat} {σ : VEnv} {γ : Type} (f : γ → P) (ef : γ → P) (xs : List γ) (hl : xs.length < LINE) (hs : ∀ x, x ∈ xs → ∃ σ1, t (.fz (f x)) σ = some σ1 ∧ e σ1 = .ok (.u (.fz (ef x))) σ1 ∧ wipeV σ1 own = σ) :
    lcGoV t (Te.yes (Cx := [])).v e own (xs.map f) σ [] = .ok ((xs.map ef).map .fz) σ := by
  have := lc_map (c := (Te.yes (Cx := [])).v) f (fun _ => true) ef xs hl fun x hx => by
    obtain ⟨σ1, h1, h2, h3⟩ := hs x hx
    exact ⟨σ1, h1, rfl, fun _ => h2, h3⟩
  rw [this, List.filter_eq_self.mpr (fun _ _ => rfl)]
theorem lc_fnI {t : U → VEnv → Option VEnv} {e : VM} {own : List Nat} {σ : VEnv} (ef : P → P) (xs : List P) (hl : xs.length < LINE) (hs : ∀ x, x ∈ xs → ∃ σ1, t (.fz x) σ = some σ1 ∧ e σ1 = .ok (.u (.fz (ef x))) σ1 ∧ wipeV σ1 own = σ) :
    lcGoV t (Te.yes (Cx := [])).v e own xs σ [] = .ok ((xs.map ef).map .fz) σ := by
  have := lc_fn id ef xs hl hs
  rwa [List.map_id] at this
/-- a call's outcome known -/
theorem callK_ok {f : List U → VF} {ios : List Nat} {xs : List X} {σ : VEnv} {us : List U} {u : U} {outs : VEnv} (h : f us = .ok u outs) (hl : (loans xs).Nodup) (ha : argsU ios σ 0 xs = some us) : callK f ios xs σ = .ok (.u u) (back ios (u.nr && nrO outs) outs 0 xs σ) := by
  unfold callK
  rw [if_pos hl, ha]
  dsimp only
  rw [h]
theorem ok_le {n : Nat} {p : P} (h : p.le n = true) : ∃ t, tyP p = some t := by
  cases p with
  | scr _ => cases n <;> simp [P.le] at h
  | dct _ _ => cases n <;> simp [P.le] at h
  | ins _ _ _ => cases n <;> simp [P.le] at h
  | _ => exact ⟨_, rfl⟩
theorem le_up : ∀ {n m : Nat} {p : P}, n ≤ m → p.le n = true → p.le m = true := by
  intro n
  induction n with
  | zero =>
    intro m p _ h
    cases p <;> first | (simp [P.le] at h; done) | (cases m <;> simp [P.le])
  | succ n ih =>
    intro m p hm h
    obtain ⟨m, rfl⟩ : ∃ k, m = k + 1 := ⟨m - 1, by omega⟩
    cases p with
    | tup ps =>
      rw [ple_tup, List.all_eq_true] at h ⊢
      exact fun x hx => ih (by omega) (h x hx)
    | lst ps =>
      rw [ple_lst, List.all_eq_true] at h ⊢
      exact fun x hx => ih (by omega) (h x hx)
    | scr _ => simp [P.le] at h
    | dct _ _ => simp [P.le] at h
    | ins _ _ _ => simp [P.le] at h
    | _ => simp [P.le]
@[simp] theorem outsV_nil (n : Nat) (σ : VEnv) : outsV n [] σ = List.replicate n none := by simp [outsV, List.map_const']
@[simp] theorem nrO_rep : ∀ n : Nat, nrO (List.replicate n none) = true
  | 0 => rfl
  | n + 1 => nrO_rep n
@[simp] theorem mkLst_comp {γ : Type} (f : γ → P) (xs : List γ) : mkLst (xs.map (U.fz ∘ f)) = .own (xs.map f) := by
  rw [← List.map_map, mkLst_map]
@[simp] theorem mkLst_fz (ps : List P) : mkLst (ps.map U.fz) = .own ps := mkLst_map ps
@[simp] theorem All_v : All_.v = allP := rfl
@[simp] theorem Any_v : Any_.v = anyP := rfl
@[simp] theorem Sum_v : Sum_.v = sumP := rfl
@[simp] theorem Str_v : Str_.v = strP := rfl
@[simp] theorem Repr_v : Repr_.v = reprP := rfl
@[simp] theorem all_id (bs : List Bool) : bs.all id = bs.all (fun b => b) := rfl
/-- a loop as a fold, with what holds of the outcome so far -/
theorem for_foldI {k : Kv} {S Y γ : Type} {t : U → VEnv → Option VEnv} {b : VEnv → VS} (Iv : S → Prop) (f : γ → P) (en : S → Y → VEnv) (step : S → γ → S) (xs : List γ) (hi : ∀ s x, x ∈ xs → Iv s → Iv (step s x))
    (hs : ∀ s y x, x ∈ xs → Iv s → ∃ σ1, t (.fz (f x)) (en s y) = some σ1 ∧ wS (b σ1) ⟨fun σ' => ∃ y', σ' = en (step s x) y', fun _ _ => False, fun _ => False, fun σ' => ∃ y', σ' = en (step s x) y', fun _ _ => False⟩) :
    ∀ (s : S) (y : Y), Iv s → (∀ y', k.nx (en (xs.foldl step s) y')) → wS (forV t b (xs.map f) (en s y)) k := by
  induction xs with
  | nil => intro s y _ q; exact q y
  | cons x xs ih =>
    intro s y hv q
    obtain ⟨σ1, h1, h2⟩ := hs s y x (by simp) hv
    simp only [List.map_cons, forV, h1]
    have go : ∀ σ', (∃ y', σ' = en (step s x) y') → wS (forV t b (xs.map f) σ') k := by
      rintro _ ⟨y', rfl⟩
      exact ih (fun s x hx => hi s x (by simp [hx])) (fun s y x hx => hs s y x (by simp [hx])) _ _ (hi s x (by simp) hv) q
    cases hb : b σ1 with
    | next σ2 => rw [hb] at h2; exact go _ h2
    | cont σ2 => rw [hb] at h2; exact go _ h2
    | brk σ2 => rw [hb] at h2; exact h2.elim
    | ret u σ2 => rw [hb] at h2; exact h2.elim
    | exc x σ2 => rw [hb] at h2; exact h2.elim
    | bad => rw [hb] at h2; exact h2.elim
theorem prs_map {γ : Type} (f : γ → P) : ∀ (xs : List γ) (k : Nat), prsP k (xs.map f) = (xs.zipIdx k).map fun x => .tup [.int x.2, f x.1]
  | [], k => rfl
  | x :: r, k => by simp [prsP, prs_map f r (k + 1)]
theorem prs_get : ∀ (ps : List P) (k i : Nat), (prsP k ps)[i]? = ps[i]?.map fun p => .tup [.int ((k + i : Nat) : Int), p]
  | [], k, i => by simp [prsP]
  | d :: r, k, 0 => by simp [prsP]
  | d :: r, k, i + 1 => by
    simp only [prsP, List.getElem?_cons_succ]
    rw [prs_get r (k + 1) i]
    have : k + 1 + i = k + (i + 1) := by omega
    rw [this]
theorem prs_len : ∀ (ps : List P) (k : Nat), (prsP k ps).length = ps.length
  | [], _ => rfl
  | d :: r, k => by simp [prsP, prs_len r]
@[simp] theorem atI_natS {γ : Type} (xs : List γ) (n : Nat) : atI xs (n : Int) = xs[n]? := atI_nat xs n
theorem ix_nat {n i : Nat} (h : i < n) : ix n (i : Int) = some i := by
  unfold ix
  rw [if_pos (by omega), if_pos (by omega)]; simp
theorem mem_zip {γ : Type} {xs : List γ} {x : γ} {i k : Nat} (h : (x, i) ∈ xs.zipIdx k) : x ∈ xs := by
  obtain ⟨j, hj⟩ := List.mem_iff_getElem?.mp h
  rw [List.getElem?_zipIdx, Option.map_eq_some_iff] at hj
  obtain ⟨y, h1, h2⟩ := hj
  cases h2
  exact List.mem_of_getElem? h1
mutual
theorem eqv_refl : ∀ (n : Nat) (p : P), p.le n = true → P.eqv p p = true
  | n, .non, _ => by simp [P.eqv]
  | n, .bl b, _ => by simp [P.eqv]
  | n, .int i, _ => by simp [P.eqv]
  | n, .str s, _ => by simp [P.eqv]
  | 0, .tup ps, h => by simp [P.le] at h
  | 0, .lst ps, h => by simp [P.le] at h
  | n + 1, .tup ps, h => by simp only [P.le] at h; simp only [P.eqv]; exact eqvs_refl n ps h
  | n + 1, .lst ps, h => by simp only [P.le] at h; simp only [P.eqv]; exact eqvs_refl n ps h
  | n, .scr ps, h => by cases n <;> simp [P.le] at h
  | n, .dct _ _, h => by cases n <;> simp [P.le] at h
  | n, .ins _ _ _, h => by cases n <;> simp [P.le] at h
theorem eqvs_refl : ∀ (n : Nat) (ps : List P), P.les n ps = true → P.eqvs ps ps = true
  | n, [], _ => by simp [P.eqvs]
  | n, p :: ps, h => by
    simp only [P.les, Bool.and_eq_true] at h
    simp only [P.eqvs, eqv_refl n p h.1, eqvs_refl n ps h.2, Bool.and_self]
end
@[simp] theorem all_comp {γ : Type} (f : γ → Bool) (xs : List γ) : xs.all ((fun b => b) ∘ f) = xs.all f := rfl
@[simp] theorem any_comp {γ : Type} (f : γ → Bool) (xs : List γ) : xs.any ((fun b => b) ∘ f) = xs.any f := rfl
theorem for_all1 {k : Kv} {Y : Type} {t : U → VEnv → Option VEnv} {b : VEnv → VS} (en : Y → VEnv) (good : P → Bool) (u : U) (xs : List P)
    (hs : ∀ y x, x ∈ xs → ∃ σ1, t (.fz x) (en y) = some σ1 ∧ wS (b σ1) ⟨fun σ' => good x = true ∧ ∃ y', σ' = en y', fun u' σ' => good x = false ∧ u' = u ∧ ∃ y', σ' = en y', fun _ => False, fun σ' => good x = true ∧ ∃ y', σ' = en y', fun _ _ => False⟩)
    (y : Y) (h1 : xs.all good = true → ∀ y', k.nx (en y')) (h2 : xs.all good = false → ∀ y', k.rt u (en y')) : wS (forV t b xs (en y)) k := by
  have := for_all (k := k) id en good u xs hs y h1 h2
  rwa [List.map_id] at this
end Py
end

section
set_option autoImplicit false
set_option linter.all false
/-! The program of the law as combinators; printed by geny.py. -/
namespace K37
noncomputable section
open Py
def is_BadBond : String → Option Bool := clT [("BadBond", true), ("TooMany", false), ("Contradiction", false)]
@[simp] theorem is_BadBond_BadBond : is_BadBond "BadBond" = some true := by simp [is_BadBond, clT, List.lookup]
@[simp] theorem is_BadBond_TooMany : is_BadBond "TooMany" = some false := by simp [is_BadBond, clT, List.lookup]
@[simp] theorem is_BadBond_Contradiction : is_BadBond "Contradiction" = some false := by simp [is_BadBond, clT, List.lookup]
def is_Contradiction : String → Option Bool := clT [("BadBond", false), ("TooMany", false), ("Contradiction", true)]
@[simp] theorem is_Contradiction_BadBond : is_Contradiction "BadBond" = some false := by simp [is_Contradiction, clT, List.lookup]
@[simp] theorem is_Contradiction_TooMany : is_Contradiction "TooMany" = some false := by simp [is_Contradiction, clT, List.lookup]
@[simp] theorem is_Contradiction_Contradiction : is_Contradiction "Contradiction" = some true := by simp [is_Contradiction, clT, List.lookup]
def ex_HearsayError : String → Option Bool := clT [("BadBond", true), ("TooMany", true), ("Contradiction", true)]
@[simp] theorem ex_HearsayError_BadBond : ex_HearsayError "BadBond" = some true := by simp [ex_HearsayError, clT, List.lookup]
@[simp] theorem ex_HearsayError_TooMany : ex_HearsayError "TooMany" = some true := by simp [ex_HearsayError, clT, List.lookup]
@[simp] theorem ex_HearsayError_Contradiction : ex_HearsayError "Contradiction" = some true := by simp [ex_HearsayError, clT, List.lookup]
def is_TooMany : String → Option Bool := clT [("BadBond", false), ("TooMany", true), ("Contradiction", false)]
@[simp] theorem is_TooMany_BadBond : is_TooMany "BadBond" = some false := by simp [is_TooMany, clT, List.lookup]
@[simp] theorem is_TooMany_TooMany : is_TooMany "TooMany" = some true := by simp [is_TooMany, clT, List.lookup]
@[simp] theorem is_TooMany_Contradiction : is_TooMany "Contradiction" = some false := by simp [is_TooMany, clT, List.lookup]
abbrev fl_limit : List String := ["TooMany"]
abbrev fl_place : List String := ["BadBond"]
def b_is_integer : S := sRet (mAnd (mUn (p1 (oIsi .int)) (mVar 0)) (mNot (mUn (p1 (oIsi .bool)) (mVar 0))))
def f_is_integer : F := fn 1 1 b_is_integer
abbrev q1__is_bond : S := sRet (mAnd (mChain oLe oLt (mC (.int 0)) (mOp (p2 oIdx) (mVar 1) (mC (.int 0))) (mVar 0)) (mChain oLe oLt (mC (.int 0)) (mOp (p2 oIdx) (mVar 1) (mC (.int 1))) (mVar 0)))
def b__is_bond : S := sSeq (sIf (tOr (tNot (tVal (mUn (p1 (oIsi .tuple)) (mVar 1)))) (tOr (tVal (mOp (p2 oNe) (mUn (p1 oLen) (mVar 1)) (mC (.int 3)))) (tNot (tVal (mUn (p1 oAll) (mLc (iAny (mVar 1)) (gName 2) (tYes) (mCall f_is_integer (mCons (mVar 2) (mNil))) [2])))))) (sRet (mC (.bl false))) (sNil)) q1__is_bond
def f__is_bond : F := fn 2 3 b__is_bond
abbrev w1_check_bonds : S := sIf (tNot (tVal (mCall f__is_bond (mCons (mVar 0) (mCons (mVar 3) (mNil)))))) (sRaise "BadBond" ["place"] (mCons (mVar 2) (mNil))) (sNil)
abbrev q1_check_bonds : S := sFor (iEnum (mVar 1)) (gTup (gCons (gName 2) (gCons (gName 3) (gNil)))) w1_check_bonds
abbrev q2_check_bonds : S := sSeq (sIf (tVal (mOp (p2 oGt) (mUn (p1 oLen) (mVar 1)) (mC (.int 300)))) (sRaise "TooMany" ["limit"] (mCons (mC (.int 300)) (mNil))) (sNil)) q1_check_bonds
def b_check_bonds : S := sSeq (sIf (tOr (tNot (tVal (mCall f_is_integer (mCons (mVar 0) (mNil))))) (tNot (tVal (mChain oLe oLe (mC (.int 1)) (mVar 0) (mC (.int 20)))))) (sRaise "BadBond" ["place"] (mCons (mUn oNeg (mC (.int 1))) (mNil))) (sNil)) q2_check_bonds
def f_check_bonds : F := fn 2 4 b_check_bonds
abbrev q1__lower : S := sAsg (mVar 7) (gName 3)
abbrev q2__lower : S := sSeq (sSetI (mVar 2) (mVar 7) (mVar 4)) q1__lower
abbrev q3__lower : S := sIf (tAnd (tVal (mOp (p2 oNotN) (mOp (p2 oIdx) (mVar 1) (mVar 6)) (mC .non))) (tOr (tVal (mOp (p2 oIsN) (mOp (p2 oIdx) (mVar 1) (mVar 7)) (mC .non))) (tVal (mOp (p2 oLt) (mOp oAdd (mOp (p2 oIdx) (mVar 1) (mVar 6)) (mVar 8)) (mOp (p2 oIdx) (mVar 1) (mVar 7)))))) (sSeq (sSetI (mVar 1) (mVar 7) (mOp oAdd (mOp (p2 oIdx) (mVar 1) (mVar 6)) (mVar 8))) q2__lower) (sNil)
abbrev w1__lower : S := sSeq (sAsg (mVar 5) (gTup (gCons (gName 6) (gCons (gName 7) (gCons (gName 8) (gNil)))))) q3__lower
abbrev q4__lower : S := sRet (mVar 3)
abbrev q5__lower : S := sSeq (sFor (iEnum (mVar 0)) (gTup (gCons (gName 4) (gCons (gName 5) (gNil)))) w1__lower) q4__lower
def b__lower : S := sSeq (sAsg (mUn oNeg (mC (.int 1))) (gName 3)) q5__lower
def f__lower : F := fn 3 9 b__lower
abbrev w1__ring_behind : S := sAsg (mOp (p2 oIdx) (mOp (p2 oIdx) (mVar 1) (mOp (p2 oIdx) (mVar 2) (mVar 3))) (mC (.int 0))) (gName 3)
abbrev q1__ring_behind : S := sAsg (mOp (p2 oIdx) (mOp (p2 oIdx) (mVar 1) (mOp (p2 oIdx) (mVar 2) (mVar 3))) (mC (.int 0))) (gName 3)
abbrev w2__ring_behind : S := sSeq (sExpr (mApp (mVar 6) (mOp (p2 oIdx) (mVar 2) (mVar 3)))) q1__ring_behind
abbrev q2__ring_behind : S := sRet (mUn oRev (mVar 6))
abbrev q3__ring_behind : S := sSeq (sWhile (tVal (mOp (p2 oNe) (mVar 3) (mVar 5))) w2__ring_behind) q2__ring_behind
abbrev q4__ring_behind : S := sSeq (sAsg (mOp (p2 oIdx) (mOp (p2 oIdx) (mVar 1) (mOp (p2 oIdx) (mVar 2) (mVar 3))) (mC (.int 0))) (gName 3)) q3__ring_behind
abbrev q5__ring_behind : S := sSeq (sAsg (mLst (mCons (mOp (p2 oIdx) (mVar 2) (mVar 3)) (mNil))) (gName 6)) q4__ring_behind
abbrev q6__ring_behind : S := sSeq (sAsg (mVar 3) (gName 5)) q5__ring_behind
def b__ring_behind : S := sSeq (sFor (iRange1 (mVar 0)) (gName 4) w1__ring_behind) q6__ring_behind
def f__ring_behind : F := fn 4 7 b__ring_behind
abbrev q1_relax : S := sIf (tVal (mOp (p2 oEq) (mVar 4) (mUn oNeg (mC (.int 1))))) (sRet (mTup (mCons (mUn (oTuple) (mVar 2)) (mCons (mC .non) (mNil))))) (sNil)
abbrev w1_relax : S := sSeq (sAsg (mCall f__lower (mCons (mVar 1) (mCons (mVar 2) (mCons (mVar 3) (mNil))))) (gName 4)) q1_relax
abbrev q2_relax : S := sRet (mTup (mCons (mC .non) (mCons (mCall f__ring_behind (mCons (mVar 0) (mCons (mVar 1) (mCons (mVar 3) (mCons (mVar 4) (mNil)))))) (mNil))))
abbrev q3_relax : S := sSeq (sFor (iRange1 (mVar 0)) (gName 5) w1_relax) q2_relax
abbrev q4_relax : S := sSeq (sAsg (mUn oNeg (mC (.int 1))) (gName 4)) q3_relax
abbrev q5_relax : S := sSeq (sAsg (mLc (iRange1 (mVar 0)) (gName 5) (tYes) (mUn oNeg (mC (.int 1))) [5]) (gName 3)) q4_relax
def b_relax : S := sSeq (sAsg (mLc (iRange1 (mVar 0)) (gName 5) (tYes) (mC (.int 0)) [5]) (gName 2)) q5_relax
def f_relax : F := fn 2 6 b_relax
abbrev q1_solve : S := sRet (mTup (mCons (mC (.str ['v', 'a', 'l', 'u', 'e', 's'])) (mCons (mVar 2) (mNil))))
abbrev q2_solve : S := sSeq (sIf (tVal (mOp (p2 oIsN) (mVar 2) (mC .non))) (sRet (mTup (mCons (mC (.str ['r', 'i', 'n', 'g'])) (mCons (mVar 3) (mNil))))) (sNil)) q1_solve
abbrev q3_solve : S := sSeq (sAsg (mCall f_relax (mCons (mVar 0) (mCons (mVar 1) (mNil)))) (gTup (gCons (gName 2) (gCons (gName 3) (gNil))))) q2_solve
def b_solve : S := sSeq (sExpr (mCall f_check_bonds (mCons (mVar 0) (mCons (mVar 1) (mNil))))) q3_solve
def f_solve : F := fn 2 4 b_solve
abbrev w1_spread : S := sIf (tVal (mOp (p2 oEq) (mCall f__lower (mCons (mVar 1) (mCons (mVar 3) (mCons (mVar 4) (mNil))))) (mUn oNeg (mC (.int 1))))) (sRet (mTup (mCons (mVar 3) (mCons (mVar 4) (mNil))))) (sNil)
abbrev q1_spread : S := sRet (mTup (mCons (mVar 3) (mCons (mVar 4) (mNil))))
abbrev q2_spread : S := sSeq (sFor (iRange1 (mVar 0)) (gName 5) w1_spread) q1_spread
abbrev q3_spread : S := sSeq (sAsg (mLc (iRange1 (mVar 0)) (gName 5) (tYes) (mUn oNeg (mC (.int 1))) [5]) (gName 4)) q2_spread
abbrev q4_spread : S := sSeq (sSetI (mVar 3) (mVar 2) (mC (.int 0))) q3_spread
def b_spread : S := sSeq (sAsg (mLc (iRange1 (mVar 0)) (gName 5) (tYes) (mC .non) [5]) (gName 3)) q4_spread
def f_spread : F := fn 3 6 b_spread
abbrev q1_most_apart : S := sAsg (mOp (p2 oIdx) (mOp (p2 oIdx) (mVar 1) (mOp (p2 oIdx) (mVar 6) (mVar 8))) (mC (.int 0))) (gName 8)
abbrev w1_most_apart : S := sSeq (sExpr (mApp (mVar 7) (mOp (p2 oIdx) (mVar 6) (mVar 8)))) q1_most_apart
abbrev q2_most_apart : S := sRet (mTup (mCons (mC (.str ['m', 'o', 's', 't'])) (mCons (mOp (p2 oIdx) (mVar 5) (mVar 3)) (mCons (mUn oRev (mVar 7)) (mNil)))))
abbrev q3_most_apart : S := sSeq (sWhile (tVal (mOp (p2 oNe) (mVar 8) (mVar 2))) w1_most_apart) q2_most_apart
abbrev q4_most_apart : S := sSeq (sAsg (mVar 3) (gName 8)) q3_most_apart
abbrev q5_most_apart : S := sSeq (sAsg (mLst (mNil)) (gName 7)) q4_most_apart
abbrev q6_most_apart : S := sSeq (sIf (tVal (mOp (p2 oIsN) (mOp (p2 oIdx) (mVar 5) (mVar 3)) (mC .non))) (sRet (mTup (mCons (mC (.str ['s', 'h', 'o', 'r', 'e'])) (mCons (mLc (iEnum (mVar 5)) (gTup (gCons (gName 8) (gCons (gName 9) (gNil)))) (tVal (mOp (p2 oNotN) (mVar 9) (mC .non))) (mVar 8) [8, 9]) (mNil))))) (sNil)) q5_most_apart
abbrev q7_most_apart : S := sSeq (sAsg (mCall f_spread (mCons (mVar 0) (mCons (mVar 1) (mCons (mVar 2) (mNil))))) (gTup (gCons (gName 5) (gCons (gName 6) (gNil))))) q6_most_apart
abbrev q8_most_apart : S := sSeq (sIf (tVal (mOp (p2 oNotN) (mVar 4) (mC .non))) (sRaise "Contradiction" ["ring"] (mCons (mVar 4) (mNil))) (sNil)) q7_most_apart
abbrev q9_most_apart : S := sSeq (sAsg (mOp (p2 oIdx) (mCall f_relax (mCons (mVar 0) (mCons (mVar 1) (mNil)))) (mC (.int 1))) (gName 4)) q8_most_apart
def b_most_apart : S := sSeq (sExpr (mCall f_check_bonds (mCons (mVar 0) (mCons (mVar 1) (mNil))))) q9_most_apart
def f_most_apart : F := fn 4 10 b_most_apart
abbrev q1_is_values : S := sRet (mUn (p1 oAll) (mLc (iAny (mVar 1)) (gTup (gCons (gName 4) (gCons (gName 5) (gCons (gName 6) (gNil))))) (tYes) (mOp (p2 oLe) (mOp (p2 oIdx) (mVar 2) (mVar 5)) (mOp oAdd (mOp (p2 oIdx) (mVar 2) (mVar 4)) (mVar 6))) [4, 5, 6]))
abbrev q2_is_values : S := sSeq (sIf (tNot (tVal (mUn (p1 oAll) (mLc (iAny (mVar 2)) (gName 3) (tYes) (mCall f_is_integer (mCons (mVar 3) (mNil))) [3])))) (sRet (mC (.bl false))) (sNil)) q1_is_values
abbrev q3_is_values : S := sSeq (sIf (tOr (tNot (tVal (mUn (p1 (oIsi .tuple)) (mVar 2)))) (tVal (mOp (p2 oNe) (mUn (p1 oLen) (mVar 2)) (mVar 0)))) (sRet (mC (.bl false))) (sNil)) q2_is_values
def b_is_values : S := sSeq (sExpr (mCall f_check_bonds (mCons (mVar 0) (mCons (mVar 1) (mNil))))) q3_is_values
def f_is_values : F := fn 3 7 b_is_values
def b_are_linked : S := sRet (mUn (p1 oAll) (mLc (iRange2 (mC (.int 1)) (mUn (p1 oLen) (mVar 0))) (gName 1) (tYes) (mOp (p2 oEq) (mOp (p2 oIdx) (mOp (p2 oIdx) (mVar 0) (mOp oSub (mVar 1) (mC (.int 1)))) (mC (.int 1))) (mOp (p2 oIdx) (mOp (p2 oIdx) (mVar 0) (mVar 1)) (mC (.int 0)))) [1]))
def f_are_linked : F := fn 1 2 b_are_linked
abbrev q1_is_closed : S := sRet (mOp (p2 oLt) (mUn (p1 oSum) (mLc (iAny (mVar 0)) (gName 1) (tYes) (mOp (p2 oIdx) (mVar 1) (mC (.int 2))) [1])) (mC (.int 0)))
def b_is_closed : S := sSeq (sIf (tOr (tNot (tTru (mVar 0))) (tOr (tNot (tVal (mCall f_are_linked (mCons (mVar 0) (mNil))))) (tVal (mOp (p2 oNe) (mOp (p2 oIdx) (mOp (p2 oIdx) (mVar 0) (mOp oSub (mUn (p1 oLen) (mVar 0)) (mC (.int 1)))) (mC (.int 1))) (mOp (p2 oIdx) (mOp (p2 oIdx) (mVar 0) (mC (.int 0))) (mC (.int 0))))))) (sRet (mC (.bl false))) (sNil)) q1_is_closed
def f_is_closed : F := fn 1 2 b_is_closed
abbrev q1__bonds_at : S := sExpr (mApp (mVar 2) (mOp (p2 oIdx) (mVar 0) (mVar 3)))
abbrev w1__bonds_at : S := sSeq (sIf (tOr (tNot (tVal (mCall f_is_integer (mCons (mVar 3) (mNil))))) (tNot (tVal (mChain oLe oLt (mC (.int 0)) (mVar 3) (mUn (p1 oLen) (mVar 0)))))) (sRet (mC .non)) (sNil)) q1__bonds_at
abbrev q2__bonds_at : S := sRet (mVar 2)
abbrev q3__bonds_at : S := sSeq (sFor (iAny (mVar 1)) (gName 3) w1__bonds_at) q2__bonds_at
abbrev q4__bonds_at : S := sSeq (sAsg (mLst (mNil)) (gName 2)) q3__bonds_at
def b__bonds_at : S := sSeq (sIf (tNot (tVal (mUn (p1 (oIsi .list)) (mVar 1)))) (sRet (mC .non)) (sNil)) q4__bonds_at
def f__bonds_at : F := fn 2 4 b__bonds_at
abbrev q1_is_bond_ring : S := sRet (mAnd (mOp (p2 oNotN) (mVar 3) (mC .non)) (mCall f_is_closed (mCons (mVar 3) (mNil))))
abbrev q2_is_bond_ring : S := sSeq (sAsg (mCall f__bonds_at (mCons (mVar 1) (mCons (mVar 2) (mNil)))) (gName 3)) q1_is_bond_ring
def b_is_bond_ring : S := sSeq (sExpr (mCall f_check_bonds (mCons (mVar 0) (mCons (mVar 1) (mNil))))) q2_is_bond_ring
def f_is_bond_ring : F := fn 3 4 b_is_bond_ring
abbrev q1_is_bond_path : S := sRet (mAnd (mCall f_are_linked (mCons (mVar 5) (mNil))) (mAnd (mOp (p2 oEq) (mOp (p2 oIdx) (mOp (p2 oIdx) (mVar 5) (mC (.int 0))) (mC (.int 0))) (mVar 2)) (mOp (p2 oEq) (mOp (p2 oIdx) (mOp (p2 oIdx) (mVar 5) (mOp oSub (mUn (p1 oLen) (mVar 5)) (mC (.int 1)))) (mC (.int 1))) (mVar 3))))
abbrev q2_is_bond_path : S := sSeq (sIf (tNot (tTru (mVar 5))) (sRet (mOp (p2 oEq) (mVar 2) (mVar 3))) (sNil)) q1_is_bond_path
abbrev q3_is_bond_path : S := sSeq (sIf (tVal (mOp (p2 oIsN) (mVar 5) (mC .non))) (sRet (mC (.bl false))) (sNil)) q2_is_bond_path
abbrev q4_is_bond_path : S := sSeq (sAsg (mCall f__bonds_at (mCons (mVar 1) (mCons (mVar 4) (mNil)))) (gName 5)) q3_is_bond_path
def b_is_bond_path : S := sSeq (sExpr (mCall f_check_bonds (mCons (mVar 0) (mCons (mVar 1) (mNil))))) q4_is_bond_path
def f_is_bond_path : F := fn 5 6 b_is_bond_path
abbrev w1_is_shore : S := sIf (tOr (tNot (tVal (mCall f_is_integer (mCons (mVar 6) (mNil))))) (tOr (tNot (tVal (mChain oLe oLt (mC (.int 0)) (mVar 6) (mVar 0)))) (tAnd (tVal (mOp (p2 oGt) (mVar 5) (mC (.int 0)))) (tVal (mOp (p2 oGe) (mOp (p2 oIdx) (mVar 4) (mOp oSub (mVar 5) (mC (.int 1)))) (mVar 6)))))) (sRet (mC (.bl false))) (sNil)
abbrev q1_is_shore : S := sRet (mNot (mUn (p1 oAny) (mLc (iAny (mVar 1)) (gTup (gCons (gName 7) (gCons (gName 8) (gCons (gName 9) (gNil))))) (tYes) (mAnd (mOp (p2 oIn) (mVar 7) (mVar 4)) (mOp (p2 oNotIn) (mVar 8) (mVar 4))) [7, 8, 9])))
abbrev q2_is_shore : S := sSeq (sIf (tOr (tVal (mOp (p2 oNotIn) (mVar 2) (mVar 4))) (tVal (mOp (p2 oIn) (mVar 3) (mVar 4)))) (sRet (mC (.bl false))) (sNil)) q1_is_shore
abbrev q3_is_shore : S := sSeq (sFor (iEnum (mVar 4)) (gTup (gCons (gName 5) (gCons (gName 6) (gNil)))) w1_is_shore) q2_is_shore
abbrev q4_is_shore : S := sSeq (sIf (tNot (tVal (mUn (p1 (oIsi .list)) (mVar 4)))) (sRet (mC (.bl false))) (sNil)) q3_is_shore
def b_is_shore : S := sSeq (sExpr (mCall f_check_bonds (mCons (mVar 0) (mCons (mVar 1) (mNil))))) q4_is_shore
def f_is_shore : F := fn 5 10 b_is_shore
abbrev q1__law_numbers : S := sIf (tVal (mOp (p2 oGe) (mVar 5) (mOp oPow (mC (.int 10)) (mC (.int 18))))) (sExpr (mApp (mVar 3) (mOp oSub (mVar 5) (mOp oPow (mC (.int 10)) (mC (.int 18)))))) (sExpr (mApp (mVar 3) (mOp oAdd (mVar 7) (mOp oMul (mVar 6) (mOp oSub (mOp oPow (mC (.int 2)) (mC (.int 61))) (mC (.int 1)))))))
abbrev q2__law_numbers : S := sSeq (sAsg (mOp oMod (mUn (p1 oInt) (mOp oAdd (mOp oAdd (mOp oMul (mVar 6) (mVar 6)) (mOp oMul (mVar 5) (mC (.int 3935559000370003845)))) (mVar 4))) (mOp oSub (mOp oPow (mC (.int 2)) (mC (.int 61))) (mC (.int 1)))) (gName 7)) q1__law_numbers
abbrev q3__law_numbers : S := sSeq (sAsg (mOp oMod (mUn (p1 oInt) (mOp oAdd (mOp oMul (mVar 5) (mC (.int 6364136223846793005))) (mOp oMul (mOp oAdd (mVar 4) (mC (.int 1))) (mC (.int 1442695040888963407))))) (mOp oSub (mOp oPow (mC (.int 2)) (mC (.int 61))) (mC (.int 1)))) (gName 6)) q2__law_numbers
abbrev q4__law_numbers : S := sSeq (sIf (tVal (mOp (p2 oLt) (mVar 4) (mUn (p1 oLen) (mVar 0)))) (sAsg (mUn (p1 oInt) (mOp (p2 oIdx) (mVar 0) (mVar 4))) (gName 5)) (sNil)) q3__law_numbers
abbrev w1__law_numbers : S := sSeq (sAsg (mOp oAdd (mVar 2) (mOp oMul (mC (.int 31)) (mVar 4))) (gName 5)) q4__law_numbers
abbrev q5__law_numbers : S := sRet (mVar 3)
abbrev q6__law_numbers : S := sSeq (sFor (iRange1 (mVar 1)) (gName 4) w1__law_numbers) q5__law_numbers
abbrev q7__law_numbers : S := sSeq (sAsg (mLst (mNil)) (gName 3)) q6__law_numbers
def b__law_numbers : S := sSeq (sAsg (mUn (p1 oSum) (mLc (iAny (mSl (mVar 0) none (some (mC (.int 63))))) (gName 5) (tYes) (mOp oMod (mUn (p1 oInt) (mVar 5)) (mC (.int 1000003))) [5])) (gName 2)) q7__law_numbers
def f__law_numbers : F := fn 2 8 b__law_numbers
abbrev q1__law_digits : S := sAsg (mOp oFdiv (mVar 0) (mVar 3)) (gName 0)
abbrev w1__law_digits : S := sSeq (sExpr (mApp (mVar 2) (mOp oMod (mUn (p1 oInt) (mVar 0)) (mVar 3)))) q1__law_digits
abbrev q2__law_digits : S := sRet (mVar 2)
abbrev q3__law_digits : S := sSeq (sFor (iAny (mVar 1)) (gName 3) w1__law_digits) q2__law_digits
def b__law_digits : S := sSeq (sAsg (mLst (mNil)) (gName 2)) q3__law_digits
def f__law_digits : F := fn 2 4 b__law_digits
def b__law_equal : S := sRet (mAnd (mOp (p2 oEq) (mVar 0) (mVar 1)) (mOp (p2 oEq) (mUn (p1 oRepr) (mVar 0)) (mUn (p1 oRepr) (mVar 1))))
def f__law_equal : F := fn 2 2 b__law_equal
def b__law_whole : S := sRet (mAnd (mUn (p1 (oIsi .int)) (mVar 0)) (mNot (mUn (p1 (oIsi .bool)) (mVar 0))))
def f__law_whole : F := fn 1 1 b__law_whole
abbrev q1__law_values : S := sRet (mSl (mVar 2) none (some (mVar 1)))
abbrev q2__law_values : S := sSeq (sAsg (mOp oAdd (mVar 2) (mCall f__law_digits (mCons (mOp (p2 oIdx) (mVar 0) (mC (.int 4))) (mCons (mLst (mCons (mC (.int 100)) (mCons (mC (.int 100)) (mCons (mC (.int 100)) (mCons (mC (.int 100)) (mCons (mC (.int 100)) (mCons (mC (.int 100)) (mCons (mC (.int 100)) (mCons (mC (.int 100)) (mCons (mC (.int 100)) (mCons (mOp oPow (mC (.int 10)) (mC (.int 30))) (mNil)))))))))))) (mNil))))) (gName 2)) q1__law_values
def b__law_values : S := sSeq (sAsg (mCall f__law_digits (mCons (mOp (p2 oIdx) (mVar 0) (mC (.int 3))) (mCons (mLst (mCons (mC (.int 100)) (mCons (mC (.int 100)) (mCons (mC (.int 100)) (mCons (mC (.int 100)) (mCons (mC (.int 100)) (mCons (mC (.int 100)) (mCons (mC (.int 100)) (mCons (mC (.int 100)) (mCons (mC (.int 100)) (mCons (mC (.int 100)) (mNil)))))))))))) (mNil)))) (gName 2)) q2__law_values
def f__law_values : F := fn 2 3 b__law_values
abbrev q1__law_bonds : S := sExpr (mApp (mVar 5) (mTup (mCons (mVar 9) (mCons (mVar 10) (mCons (mVar 11) (mNil))))))
abbrev q2__law_bonds : S := sSeq (sIf (tVal (mOp (p2 oLt) (mVar 3) (mC (.int 4)))) (sAsg (mOp oAdd (mOp oSub (mOp (p2 oIdx) (mVar 4) (mVar 10)) (mOp (p2 oIdx) (mVar 4) (mVar 9))) (mOp (p2 oIdx) (mLst (mCons (mC (.int 0)) (mCons (mC (.int 0)) (mCons (mOp (p2 oIdx) (mVar 8) (mC (.int 3))) (mCons (mC (.int 1)) (mNil)))))) (mOp (p2 oIdx) (mVar 8) (mC (.int 2))))) (gName 11)) (sIf (tVal (mOp (p2 oLt) (mVar 3) (mC (.int 7)))) (sAsg (mOp oSub (mOp (p2 oIdx) (mVar 8) (mC (.int 3))) (mC (.int 3))) (gName 11)) (sAsg (mOp oSub (mOp (p2 oIdx) (mVar 8) (mC (.int 4))) (mOp (p2 oIdx) (mLst (mCons (mOp oPow (mC (.int 10)) (mC (.int 29))) (mCons (mC (.int 0)) (mCons (mC (.int 3)) (mCons (mOp oPow (mC (.int 10)) (mC (.int 30))) (mNil)))))) (mOp (p2 oIdx) (mVar 8) (mC (.int 2))))) (gName 11)))) q1__law_bonds
abbrev q3__law_bonds : S := sSeq (sPar (mCons (mOp (p2 oIdx) (mVar 8) (mC (.int 0))) (mCons (mOp (p2 oIdx) (mVar 8) (mC (.int 1))) (mNil))) (gCons (gName 9) (gCons (gName 10) gNil))) q2__law_bonds
abbrev q4__law_bonds : S := sSeq (sAsg (mCall f__law_digits (mCons (mVar 7) (mCons (mLst (mCons (mVar 1) (mCons (mVar 1) (mCons (mC (.int 4)) (mCons (mC (.int 13)) (mCons (mOp oPow (mC (.int 10)) (mC (.int 30))) (mNil))))))) (mNil)))) (gName 8)) q3__law_bonds
abbrev w1__law_bonds : S := sSeq (sAsg (mOp oAdd (mOp oFdiv (mOp (p2 oIdx) (mVar 0) (mOp oAdd (mC (.int 8)) (mOp oMod (mVar 6) (mC (.int 40))))) (mOp oAdd (mC (.int 1)) (mOp oFdiv (mVar 6) (mC (.int 40))))) (mOp oMul (mOp oFdiv (mVar 6) (mC (.int 40))) (mC (.int 2654435761)))) (gName 7)) q4__law_bonds
abbrev q5__law_bonds : S := sRet (mVar 5)
abbrev q6__law_bonds : S := sSeq (sFor (iRange1 (mVar 2)) (gName 6) w1__law_bonds) q5__law_bonds
abbrev q7__law_bonds : S := sSeq (sAsg (mLst (mNil)) (gName 5)) q6__law_bonds
def b__law_bonds : S := sSeq (sAsg (mCall f__law_values (mCons (mVar 0) (mCons (mVar 1) (mNil)))) (gName 4)) q7__law_bonds
def f__law_bonds : F := fn 4 12 b__law_bonds
abbrev q1__law_kept : S := sRet (mUn (p1 oAll) (mLc (iAny (mVar 1)) (gTup (gCons (gName 4) (gCons (gName 5) (gCons (gName 6) (gNil))))) (tYes) (mOp (p2 oLe) (mOp (p2 oIdx) (mVar 2) (mVar 5)) (mOp oAdd (mOp (p2 oIdx) (mVar 2) (mVar 4)) (mVar 6))) [4, 5, 6]))
def b__law_kept : S := sSeq (sIf (tOr (tNot (tVal (mUn (p1 (oIsi .tuple)) (mVar 2)))) (tOr (tVal (mOp (p2 oNe) (mUn (p1 oLen) (mVar 2)) (mVar 0))) (tNot (tVal (mUn (p1 oAll) (mLc (iAny (mVar 2)) (gName 3) (tYes) (mCall f__law_whole (mCons (mVar 3) (mNil))) [3])))))) (sRet (mC (.bl false))) (sNil)) q1__law_kept
def f__law_kept : F := fn 3 7 b__law_kept
abbrev w1__law_is_greatest : S := sIf (tAnd (tTru (mOp (p2 oIdx) (mVar 2) (mVar 4))) (tVal (mOp (p2 oEq) (mOp (p2 oIdx) (mVar 1) (mVar 5)) (mOp oAdd (mOp (p2 oIdx) (mVar 1) (mVar 4)) (mVar 6))))) (sSetI (mVar 2) (mVar 5) (mC (.bl true))) (sNil)
abbrev w2__law_is_greatest : S := sFor (iAny (mVar 0)) (gTup (gCons (gName 4) (gCons (gName 5) (gCons (gName 6) (gNil))))) w1__law_is_greatest
abbrev q1__law_is_greatest : S := sRet (mAnd (mUn (p1 oAll) (mVar 2)) (mOp (p2 oLe) (mUn (p1 oMaxL) (mVar 1)) (mC (.int 0))))
abbrev q2__law_is_greatest : S := sSeq (sFor (iRange1 (mUn (p1 oLen) (mVar 1))) (gName 3) w2__law_is_greatest) q1__law_is_greatest
def b__law_is_greatest : S := sSeq (sAsg (mLc (iAny (mVar 1)) (gName 7) (tYes) (mOp (p2 oEq) (mVar 7) (mC (.int 0))) [7]) (gName 2)) q2__law_is_greatest
def f__law_is_greatest : F := fn 2 8 b__law_is_greatest
abbrev w1__law_is_wheel : S := sIf (tOr (tNot (tVal (mCall f__law_whole (mCons (mVar 2) (mNil))))) (tNot (tVal (mChain oLe oLt (mC (.int 0)) (mVar 2) (mUn (p1 oLen) (mVar 0)))))) (sRet (mC (.bl false))) (sNil)
abbrev w2__law_is_wheel : S := sIf (tVal (mOp (p2 oNe) (mOp (p2 oIdx) (mOp (p2 oIdx) (mVar 0) (mOp (p2 oIdx) (mVar 1) (mOp oSub (mVar 3) (mC (.int 1))))) (mC (.int 1))) (mOp (p2 oIdx) (mOp (p2 oIdx) (mVar 0) (mOp (p2 oIdx) (mVar 1) (mVar 3))) (mC (.int 0))))) (sRet (mC (.bl false))) (sNil)
abbrev q1__law_is_wheel : S := sRet (mOp (p2 oLt) (mUn (p1 oSum) (mLc (iAny (mVar 1)) (gName 2) (tYes) (mOp (p2 oIdx) (mOp (p2 oIdx) (mVar 0) (mVar 2)) (mC (.int 2))) [2])) (mC (.int 0)))
abbrev q2__law_is_wheel : S := sSeq (sFor (iRange1 (mUn (p1 oLen) (mVar 1))) (gName 3) w2__law_is_wheel) q1__law_is_wheel
abbrev q3__law_is_wheel : S := sSeq (sFor (iAny (mVar 1)) (gName 2) w1__law_is_wheel) q2__law_is_wheel
def b__law_is_wheel : S := sSeq (sIf (tOr (tNot (tVal (mUn (p1 (oIsi .list)) (mVar 1)))) (tNot (tTru (mVar 1)))) (sRet (mC (.bl false))) (sNil)) q3__law_is_wheel
def f__law_is_wheel : F := fn 2 4 b__law_is_wheel
abbrev w1__law_ask_values : S := sIf (tNot (tVal (mCall f__law_equal (mCons (mCall f_is_values (mCons (mVar 0) (mCons (mUn (oList) (mVar 1)) (mCons (mVar 3) (mNil))))) (mCons (mCall f__law_kept (mCons (mVar 0) (mCons (mVar 1) (mCons (mVar 3) (mNil))))) (mNil)))))) (sRet (mC (.bl false))) (sNil)
abbrev q1__law_ask_values : S := sRet (mC (.bl true))
def b__law_ask_values : S := sSeq (sFor (iAny (mVar 2)) (gName 3) w1__law_ask_values) q1__law_ask_values
def f__law_ask_values : F := fn 3 4 b__law_ask_values
abbrev q1__law_ask_wheels : S := sIf (tOr (tNot (tVal (mCall f__law_equal (mCons (mCall f_is_bond_ring (mCons (mVar 0) (mCons (mUn (oList) (mVar 1)) (mCons (mVar 4) (mNil))))) (mCons (mVar 5) (mNil)))))) (tVal (mOp (p2 oNe) (mVar 4) (mVar 3)))) (sRet (mC (.bl false))) (sNil)
abbrev q2__law_ask_wheels : S := sSeq (sAsg (mCall f__law_is_wheel (mCons (mVar 1) (mCons (mVar 3) (mNil)))) (gName 5)) q1__law_ask_wheels
abbrev q3__law_ask_wheels : S := sSeq (sIf (tVal (mUn (p1 (oIsi .list)) (mVar 3))) (sAsg (mUn (oList) (mVar 3)) (gName 4)) (sNil)) q2__law_ask_wheels
abbrev w1__law_ask_wheels : S := sSeq (sAsg (mVar 3) (gName 4)) q3__law_ask_wheels
abbrev q4__law_ask_wheels : S := sRet (mC (.bl true))
def b__law_ask_wheels : S := sSeq (sFor (iAny (mVar 2)) (gName 3) w1__law_ask_wheels) q4__law_ask_wheels
def f__law_ask_wheels : F := fn 3 6 b__law_ask_wheels
abbrev q1__law_value_papers : S := sRet (mOp oAdd (mVar 5) (mLst (mCons (mOp oAdd (mOp oAdd (mVar 3) (mTup (mCons (mUn (p1 oStr) (mVar 2)) (mNil)))) (mVar 4)) (mCons (mC .non) (mCons (mC (.int 7)) (mCons (mTup (mNil)) (mCons (mC (.str ['v', 'a', 'l', 'u', 'e', 's'])) (mCons (mOp oAdd (mOp oAdd (mVar 3) (mTup (mCons (mC (.bl false)) (mNil)))) (mVar 4)) (mNil)))))))))
abbrev q2__law_value_papers : S := sSeq (sAsg (mOp oAdd (mVar 5) (mLst (mCons (mOp oAdd (mVar 0) (mTup (mCons (mC (.int 0)) (mNil)))) (mCons (mOp oAdd (mVar 3) (mVar 4)) (mCons (mOp oAdd (mOp oAdd (mVar 3) (mTup (mCons (mC .non) (mNil)))) (mVar 4)) (mCons (mOp oAdd (mOp oAdd (mVar 3) (mTup (mCons (mC (.bl true)) (mNil)))) (mVar 4)) (mNil))))))) (gName 5)) q1__law_value_papers
abbrev q3__law_value_papers : S := sSeq (sAsg (mOp oAdd (mVar 5) (mLst (mCons (mOp oAdd (mOp oAdd (mVar 3) (mTup (mCons (mOp oAdd (mOp (p2 oIdx) (mVar 0) (mVar 2)) (mC (.int 1))) (mNil)))) (mVar 4)) (mCons (mOp oAdd (mOp oAdd (mVar 3) (mTup (mCons (mOp oSub (mOp (p2 oIdx) (mVar 0) (mVar 2)) (mC (.int 1))) (mNil)))) (mVar 4)) (mCons (mUn (oList) (mVar 0)) (mNil)))))) (gName 5)) q2__law_value_papers
abbrev q4__law_value_papers : S := sSeq (sAsg (mLst (mCons (mVar 0) (mCons (mUn (oTuple) (mLc (iAny (mVar 0)) (gName 6) (tYes) (mOp oAdd (mVar 6) (mC (.int 7))) [6])) (mCons (mUn (oTuple) (mLc (iAny (mVar 0)) (gName 6) (tYes) (mOp oSub (mVar 6) (mOp oPow (mC (.int 10)) (mC (.int 31)))) [6])) (mNil))))) (gName 5)) q3__law_value_papers
abbrev q5__law_value_papers : S := sSeq (sPar (mCons (mSl (mVar 0) none (some (mVar 2))) (mCons (mSl (mVar 0) (some (mOp oAdd (mVar 2) (mC (.int 1)))) none) (mNil))) (gCons (gName 3) (gCons (gName 4) gNil))) q4__law_value_papers
def b__law_value_papers : S := sSeq (sAsg (mOp oMod (mUn (p1 oInt) (mVar 1)) (mUn (p1 oLen) (mVar 0))) (gName 2)) q5__law_value_papers
def f__law_value_papers : F := fn 2 7 b__law_value_papers
abbrev q1__law_wheel_papers : S := sRet (mOp oAdd (mVar 4) (mLst (mCons (mLc (iAny (mVar 0)) (gName 5) (tYes) (mIf (tVal (mOp (p2 oIn) (mVar 5) (mTup (mCons (mC (.int 0)) (mCons (mC (.int 1)) (mNil)))))) (mOp (p2 oEq) (mVar 5) (mC (.int 1))) (mVar 5)) [5]) (mCons (mLst (mCons (mVar 0) (mNil))) (mCons (mUn oRng (mVar 1)) (mCons (mLst (mCons (mC (.int 0)) (mNil))) (mCons (mC (.str ['r', 'i', 'n', 'g'])) (mNil))))))))
abbrev q2__law_wheel_papers : S := sSeq (sAsg (mOp oAdd (mVar 4) (mLst (mCons (mOp oAdd (mOp oAdd (mSl (mVar 0) none (some (mVar 3))) (mLst (mCons (mOp oMod (mUn (p1 oInt) (mOp oFdiv (mVar 2) (mC (.int 20)))) (mOp oAdd (mVar 1) (mC (.int 1)))) (mNil)))) (mSl (mVar 0) (some (mOp oAdd (mVar 3) (mC (.int 1)))) none)) (mCons (mUn (oTuple) (mVar 0)) (mCons (mLst (mNil)) (mCons (mC .non) (mCons (mC (.int 5)) (mNil)))))))) (gName 4)) q1__law_wheel_papers
abbrev q3__law_wheel_papers : S := sSeq (sAsg (mOp oAdd (mVar 4) (mLst (mCons (mUn oRev (mVar 0)) (mCons (mOp oAdd (mVar 0) (mLst (mCons (mVar 1) (mNil)))) (mCons (mOp oAdd (mVar 0) (mLst (mCons (mUn oNeg (mC (.int 1))) (mNil)))) (mCons (mOp oAdd (mVar 0) (mLst (mCons (mC .non) (mNil)))) (mCons (mOp oAdd (mSl (mVar 0) none (some (mVar 3))) (mLst (mCons (mUn (p1 oStr) (mVar 3)) (mNil)))) (mNil)))))))) (gName 4)) q2__law_wheel_papers
abbrev q4__law_wheel_papers : S := sSeq (sAsg (mLst (mCons (mVar 0) (mCons (mOp oAdd (mSl (mVar 0) (some (mVar 3)) none) (mSl (mVar 0) none (some (mVar 3)))) (mCons (mOp oAdd (mVar 0) (mVar 0)) (mCons (mSl (mVar 0) (some (mC (.int 1))) none) (mCons (mOp oAdd (mSl (mVar 0) none (some (mVar 3))) (mSl (mVar 0) (some (mOp oAdd (mVar 3) (mC (.int 1)))) none)) (mNil))))))) (gName 4)) q3__law_wheel_papers
def b__law_wheel_papers : S := sSeq (sAsg (mOp oMod (mUn (p1 oInt) (mVar 2)) (mUn (p1 oLen) (mVar 0))) (gName 3)) q4__law_wheel_papers
def f__law_wheel_papers : F := fn 3 6 b__law_wheel_papers
abbrev t1__law_refusal : S := sIf (tVal (mOp (p2 oEq) (mVar 0) (mC (.int 0)))) (sExpr (mCall f_solve (mCons (mVar 1) (mCons (mVar 2) (mNil))))) (sIf (tVal (mOp (p2 oEq) (mVar 0) (mC (.int 1)))) (sExpr (mCall f_most_apart (mCons (mVar 1) (mCons (mVar 2) (mCons (mC (.int 0)) (mCons (mC (.int 0)) (mNil))))))) (sIf (tVal (mOp (p2 oEq) (mVar 0) (mC (.int 2)))) (sExpr (mCall f_is_values (mCons (mVar 1) (mCons (mVar 2) (mCons (mTup (mCons (mC (.int 0)) (mNil))) (mNil)))))) (sIf (tVal (mOp (p2 oEq) (mVar 0) (mC (.int 3)))) (sExpr (mCall f_is_bond_ring (mCons (mVar 1) (mCons (mVar 2) (mCons (mLst (mCons (mC (.int 0)) (mNil))) (mNil)))))) (sIf (tVal (mOp (p2 oEq) (mVar 0) (mC (.int 4)))) (sExpr (mCall f_is_bond_path (mCons (mVar 1) (mCons (mVar 2) (mCons (mC (.int 0)) (mCons (mC (.int 0)) (mCons (mLst (mNil)) (mNil)))))))) (sExpr (mCall f_is_shore (mCons (mVar 1) (mCons (mVar 2) (mCons (mC (.int 0)) (mCons (mC (.int 0)) (mCons (mLst (mCons (mC (.int 0)) (mNil))) (mNil))))))))))))
abbrev q1__law_refusal (e : Exc) (a b : Nat) : S := sIf (tVal (mIsE is_Contradiction 4 e a b)) (sExpr (mApp (mVar 3) (mTup (mCons (mC (.str ['r', 'i', 'n', 'g'])) (mNil))))) (sNil)
abbrev q2__law_refusal (e : Exc) (a b : Nat) : S := sSeq (sIf (tVal (mIsE is_TooMany 4 e a b)) (sExpr (mApp (mVar 3) (mTup (mCons (mC (.str ['m', 'a', 'n', 'y'])) (mCons (mFldC fl_limit "limit" 4 e a b) (mNil)))))) (sNil)) (q1__law_refusal e a b)
abbrev q3__law_refusal : S := sRet (mVar 3)
abbrev q4__law_refusal : S := sSeq (sTryAs t1__law_refusal ex_HearsayError 4 (fun e a b => sSeq (sIf (tVal (mIsE is_BadBond 4 e a b)) (sExpr (mApp (mVar 3) (mTup (mCons (mC (.str ['b', 'o', 'n', 'd'])) (mCons (mFldC fl_place "place" 4 e a b) (mNil)))))) (sNil)) (q2__law_refusal e a b))) q3__law_refusal
def b__law_refusal : S := sSeq (sAsg (mLst (mNil)) (gName 3)) q4__law_refusal
def f__law_refusal : F := fn 3 5 b__law_refusal
abbrev w1__law_ask_refusals : S := sIf (tNot (tVal (mCall f__law_equal (mCons (mCall f__law_refusal (mCons (mVar 9) (mCons (mVar 4) (mCons (mVar 10) (mNil))))) (mCons (mLst (mCons (mTup (mCons (mC (.str ['b', 'o', 'n', 'd'])) (mCons (mUn oNeg (mC (.int 1))) (mNil)))) (mNil))) (mNil)))))) (sRet (mC (.bl false))) (sNil)
abbrev q1__law_ask_refusals : S := sIf (tAnd (tVal (mOp (p2 oLt) (mVar 6) (mC (.int 300)))) (tNot (tVal (mCall f__law_equal (mCons (mCall f__law_refusal (mCons (mVar 9) (mCons (mVar 0) (mCons (mUn (oList) (mVar 7)) (mNil))))) (mCons (mLst (mCons (mTup (mCons (mC (.str ['b', 'o', 'n', 'd'])) (mCons (mVar 6) (mNil)))) (mNil))) (mNil))))))) (sRet (mC (.bl false))) (sNil)
abbrev q2__law_ask_refusals : S := sSeq (sIf (tNot (tVal (mCall f__law_equal (mCons (mCall f__law_refusal (mCons (mVar 9) (mCons (mVar 0) (mCons (mUn (oList) (mVar 8)) (mNil))))) (mCons (mLst (mCons (mTup (mCons (mC (.str ['m', 'a', 'n', 'y'])) (mCons (mC (.int 300)) (mNil)))) (mNil))) (mNil)))))) (sRet (mC (.bl false))) (sNil)) q1__law_ask_refusals
abbrev w2__law_ask_refusals : S := sSeq (sFor (iAny (mTup (mCons (mUn (oList) (mVar 1)) (mCons (mUn (oList) (mVar 7)) (mCons (mUn (oList) (mVar 8)) (mNil)))))) (gName 10) w1__law_ask_refusals) q2__law_ask_refusals
abbrev q3__law_ask_refusals : S := sRet (mC (.bl true))
abbrev q4__law_ask_refusals : S := sSeq (sFor (iRange1 (mC (.int 6))) (gName 9) w2__law_ask_refusals) q3__law_ask_refusals
abbrev q5__law_ask_refusals : S := sSeq (sAsg (mSl (mOp oAdd (mVar 7) (mOp oMul (mLst (mCons (mTup (mCons (mC (.int 0)) (mCons (mC (.int 0)) (mCons (mC (.int 0)) (mNil))))) (mNil))) (mC (.int 301)))) none (some (mC (.int 301)))) (gName 8)) q4__law_ask_refusals
abbrev q6__law_ask_refusals : S := sSeq (sAsg (mSl (mOp oAdd (mOp oAdd (mOp oAdd (mSl (mVar 1) none (some (mVar 6))) (mLst (mCons (mOp (p2 oIdx) (mVar 5) (mOp (p2 oIdx) (mVar 3) (mC (.int 1)))) (mNil)))) (mSl (mVar 1) (some (mVar 6)) none)) (mLst (mCons (mC .non) (mNil)))) none (some (mC (.int 300)))) (gName 7)) q5__law_ask_refusals
abbrev q7__law_ask_refusals : S := sSeq (sAsg (mOp oMod (mOp (p2 oIdx) (mVar 3) (mC (.int 2))) (mOp oAdd (mC (.int 1)) (mUn (p1 oLen) (mVar 1)))) (gName 6)) q6__law_ask_refusals
abbrev q8__law_ask_refusals : S := sSeq (sAsg (mOp oAdd (mVar 5) (mLst (mCons (mTup (mCons (mC (.int 0)) (mCons (mC (.int 0)) (mCons (mC (.bl true)) (mNil))))) (mCons (mTup (mCons (mC (.str ['0'])) (mCons (mC (.int 0)) (mCons (mC (.int 1)) (mNil))))) (mCons (mTup (mCons (mC (.int 0)) (mCons (mOp oAdd (mVar 0) (mC (.int 7))) (mCons (mC (.int 1)) (mNil))))) (mNil)))))) (gName 5)) q7__law_ask_refusals
abbrev q9__law_ask_refusals : S := sSeq (sAsg (mLst (mCons (mC .non) (mCons (mC (.int 5)) (mCons (mTup (mCons (mC (.int 0)) (mCons (mC (.int 0)) (mNil)))) (mCons (mTup (mCons (mC (.int 0)) (mCons (mC (.int 0)) (mCons (mC (.int 0)) (mCons (mC (.int 0)) (mNil)))))) (mCons (mLst (mCons (mC (.int 0)) (mCons (mC (.int 0)) (mCons (mC (.int 1)) (mNil))))) (mCons (mTup (mCons (mC (.int 0)) (mCons (mVar 0) (mCons (mC (.int 1)) (mNil))))) (mCons (mTup (mCons (mUn oNeg (mC (.int 1))) (mCons (mC (.int 0)) (mCons (mC (.int 1)) (mNil))))) (mCons (mTup (mCons (mC (.int 0)) (mCons (mC (.int 0)) (mCons (mC .non) (mNil))))) (mCons (mTup (mCons (mC (.bl false)) (mCons (mC (.int 0)) (mCons (mC (.int 1)) (mNil))))) (mNil))))))))))) (gName 5)) q8__law_ask_refusals
abbrev q10__law_ask_refusals : S := sSeq (sAsg (mOp (p2 oIdx) (mLst (mCons (mC (.int 0)) (mCons (mC (.int 21)) (mCons (mC (.bl true)) (mCons (mC .non) (mCons (mC (.str ['3'])) (mCons (mUn oNeg (mC (.int 1))) (mNil)))))))) (mOp (p2 oIdx) (mVar 3) (mC (.int 0)))) (gName 4)) q9__law_ask_refusals
def b__law_ask_refusals : S := sSeq (sAsg (mCall f__law_digits (mCons (mVar 2) (mCons (mLst (mCons (mC (.int 6)) (mCons (mC (.int 12)) (mCons (mC (.int 300)) (mNil))))) (mNil)))) (gName 3)) q10__law_ask_refusals
def f__law_ask_refusals : F := fn 3 11 b__law_ask_refusals
abbrev q1_law : S := sAsg (mLst (mCons (mVar 3) (mCons (mOp oAdd (mVar 3) (mC (.int 1))) (mNil)))) (gName 6)
abbrev q2_law : S := sSeq (sAsg (mOp oAdd (mVar 5) (mLst (mCons (mTup (mCons (mVar 7) (mCons (mVar 8) (mCons (mVar 9) (mNil))))) (mCons (mTup (mCons (mVar 8) (mCons (mVar 7) (mCons (mOp oSub (mUn oNeg (mVar 9)) (mC (.int 1))) (mNil))))) (mNil))))) (gName 5)) q1_law
abbrev q3_law : S := sSeq (sAsg (mOp oMod (mUn (p1 oInt) (mOp (p2 oIdx) (mVar 1) (mC (.int 6)))) (mOp oPow (mC (.int 10)) (mC (.int 20)))) (gName 9)) q2_law
abbrev q4_law : S := sIf (tNot (tVal (mCall f__law_ask_wheels (mCons (mVar 2) (mCons (mVar 5) (mCons (mVar 12) (mNil))))))) (sRet (mC (.bl false))) (sNil)
abbrev q5_law : S := sSeq (sIf (tNot (tVal (mCall f__law_ask_values (mCons (mVar 2) (mCons (mVar 5) (mCons (mCall f__law_value_papers (mCons (mOp (p2 oIdx) (mVar 11) (mC (.int 1))) (mCons (mOp (p2 oIdx) (mVar 1) (mC (.int 7))) (mNil)))) (mNil))))))) (sRet (mC (.bl false))) (sNil)) q4_law
abbrev q6_law : S := sIf (tAnd (tTru (mVar 6)) (tNot (tVal (mCall f__law_ask_wheels (mCons (mVar 2) (mCons (mVar 5) (mCons (mCall f__law_wheel_papers (mCons (mVar 6) (mCons (mUn (p1 oLen) (mVar 5)) (mCons (mOp (p2 oIdx) (mVar 1) (mC (.int 7))) (mNil))))) (mNil)))))))) (sRet (mC (.bl false))) (sNil)
abbrev q7_law : S := sSeq (sIf (tNot (tVal (mCall f__law_ask_wheels (mCons (mVar 2) (mCons (mVar 5) (mCons (mOp oAdd (mVar 12) (mCall f__law_wheel_papers (mCons (mOp (p2 oIdx) (mVar 11) (mC (.int 1))) (mCons (mUn (p1 oLen) (mVar 5)) (mCons (mOp (p2 oIdx) (mVar 1) (mC (.int 7))) (mNil)))))) (mNil))))))) (sRet (mC (.bl false))) (sNil)) q6_law
abbrev q8_law : S := sRet (mCall f__law_ask_refusals (mCons (mVar 2) (mCons (mVar 5) (mCons (mOp oFdiv (mOp (p2 oIdx) (mVar 1) (mC (.int 7))) (mC (.int 8000))) (mNil)))))
abbrev q9_law : S := sSeq (sIf (tNot (tVal (mCall f__law_ask_values (mCons (mVar 2) (mCons (mVar 5) (mCons (mCall f__law_value_papers (mCons (mVar 13) (mCons (mOp (p2 oIdx) (mVar 1) (mC (.int 7))) (mNil)))) (mNil))))))) (sRet (mC (.bl false))) (sNil)) q8_law
abbrev q10_law : S := sSeq (sAsg (mUn (oTuple) (mCall f__law_values (mCons (mVar 1) (mCons (mVar 2) (mNil))))) (gName 13)) q9_law
abbrev q11_law : S := sSeq (sIf (tVal (mOp (p2 oEq) (mOp (p2 oIdx) (mVar 11) (mC (.int 0))) (mC (.str ['v', 'a', 'l', 'u', 'e', 's'])))) (sSeq (sIf (tOr (tNot (tVal (mCall f__law_kept (mCons (mVar 2) (mCons (mVar 5) (mCons (mOp (p2 oIdx) (mVar 11) (mC (.int 1))) (mNil))))))) (tOr (tNot (tVal (mCall f__law_is_greatest (mCons (mVar 5) (mCons (mOp (p2 oIdx) (mVar 11) (mC (.int 1))) (mNil)))))) (tTru (mVar 6)))) (sRet (mC (.bl false))) (sNil)) q5_law) (sSeq (sIf (tOr (tVal (mOp (p2 oNe) (mOp (p2 oIdx) (mVar 11) (mC (.int 0))) (mC (.str ['r', 'i', 'n', 'g'])))) (tOr (tNot (tVal (mCall f__law_is_wheel (mCons (mVar 5) (mCons (mOp (p2 oIdx) (mVar 11) (mC (.int 1))) (mNil)))))) (tAnd (tVal (mOp (p2 oLt) (mVar 4) (mC (.int 4)))) (tNot (tTru (mVar 6)))))) (sRet (mC (.bl false))) (sNil)) q7_law)) q10_law
abbrev q12_law : S := sSeq (sAsg (mOp oAdd (mLst (mCons (mVar 6) (mCons (mLst (mNil)) (mCons (mC .non) (mCons (mLst (mCons (mC (.int 0)) (mNil))) (mCons (mUn oRng (mUn (p1 oLen) (mVar 5))) (mNil))))))) (mSl (mLc (iRange1 (mUn (p1 oLen) (mVar 5))) (gName 14) (tYes) (mLst (mCons (mVar 14) (mNil))) [14]) none (some (mC (.int 30))))) (gName 12)) q11_law
abbrev q13_law : S := sSeq (sIf (tOr (tVal (mOp (p2 oNe) (mVar 10) (mVar 5))) (tOr (tNot (tVal (mUn (p1 (oIsi .tuple)) (mVar 11)))) (tVal (mOp (p2 oNe) (mUn (p1 oLen) (mVar 11)) (mC (.int 2)))))) (sRet (mC (.bl false))) (sNil)) q12_law
abbrev q14_law : S := sSeq (sAsg (mCall f_solve (mCons (mVar 2) (mCons (mVar 10) (mNil)))) (gName 11)) q13_law
abbrev q15_law : S := sSeq (sAsg (mUn (oList) (mVar 5)) (gName 10)) q14_law
abbrev q16_law : S := sSeq (sIf (tAnd (tVal (mOp (p2 oEq) (mOp oMod (mVar 4) (mC (.int 2))) (mC (.int 1)))) (tVal (mOp (p2 oLt) (mVar 3) (mC (.int 299))))) (sSeq (sUnp (mCall f__law_digits (mCons (mOp (p2 oIdx) (mVar 1) (mC (.int 5))) (mCons (mLst (mCons (mVar 2) (mCons (mVar 2) (mNil)))) (mNil)))) (gCons (gName 7) (gCons (gName 8) (gNil)))) q3_law) (sNil)) q15_law
abbrev q17_law : S := sSeq (sAsg (mLst (mNil)) (gName 6)) q16_law
abbrev q18_law : S := sSeq (sIf (tVal (mOp (p2 oGt) (mVar 3) (mC (.int 300)))) (sRet (mCall f__law_equal (mCons (mCall f__law_refusal (mCons (mOp oMod (mUn (p1 oInt) (mOp (p2 oIdx) (mVar 1) (mC (.int 5)))) (mC (.int 6))) (mCons (mVar 2) (mCons (mOp oAdd (mVar 5) (mLst (mCons (mTup (mCons (mC (.int 0)) (mCons (mC (.int 0)) (mCons (mC (.int 0)) (mNil))))) (mNil)))) (mNil))))) (mCons (mLst (mCons (mTup (mCons (mC (.str ['m', 'a', 'n', 'y'])) (mCons (mC (.int 300)) (mNil)))) (mNil))) (mNil))))) (sNil)) q17_law
abbrev q19_law : S := sSeq (sAsg (mCall f__law_bonds (mCons (mVar 1) (mCons (mVar 2) (mCons (mOp (p2 oMin) (mVar 3) (mC (.int 300))) (mCons (mVar 4) (mNil)))))) (gName 5)) q18_law
abbrev q20_law : S := sSeq (sAsg (mOp oMod (mUn (p1 oInt) (mOp (p2 oIdx) (mVar 1) (mC (.int 2)))) (mC (.int 10))) (gName 4)) q19_law
abbrev q21_law : S := sSeq (sIf (tVal (mOp (p2 oEq) (mOp oMod (mUn (p1 oInt) (mOp oFdiv (mOp (p2 oIdx) (mVar 1) (mC (.int 1))) (mC (.int 41)))) (mC (.int 10))) (mC (.int 1)))) (sAsg (mOp oAdd (mC (.int 298)) (mOp oMod (mVar 3) (mC (.int 4)))) (gName 3)) (sNil)) q20_law
abbrev q22_law : S := sSeq (sAsg (mOp oMod (mUn (p1 oInt) (mOp (p2 oIdx) (mVar 1) (mC (.int 1)))) (mC (.int 41))) (gName 3)) q21_law
abbrev q23_law : S := sSeq (sAsg (mOp oAdd (mC (.int 1)) (mOp oMod (mUn (p1 oInt) (mOp (p2 oIdx) (mVar 1) (mC (.int 0)))) (mC (.int 20)))) (gName 2)) q22_law
def b_law : S := sSeq (sAsg (mCall f__law_numbers (mCons (mVar 0) (mCons (mC (.int 48)) (mNil)))) (gName 1)) q23_law
def f_law : F := fn 1 15 b_law
end
end K37
end

section
set_option Elab.async false
set_option linter.all false
set_option maxRecDepth 100000
set_option autoImplicit false
/-! The derivations; printed by geny.py. -/
namespace K37
open Py PySem L2
def top (i : Nat) : Stmt := PySem.Challenge.pw_hearsay_k37_bonds_values_or_ring.main.body.getD i (.Pass ⟨0, 0, 0, 0⟩)
abbrev s_BadBond : Stmt := PyJ.initOf (top 3)
abbrev s_TooMany : Stmt := PyJ.initOf (top 2)
abbrev s_Contradiction : Stmt := PyJ.initOf (top 4)
abbrev s_is_integer : Stmt := top 6
abbrev N_is_integer : List Str := ["value"]
abbrev P_is_integer : List Str := ["value"]
abbrev s__is_bond : Stmt := top 10
abbrev N__is_bond : List Str := ["count", "bond", "part"]
abbrev P__is_bond : List Str := ["count", "bond"]
abbrev s_check_bonds : Stmt := top 11
abbrev N_check_bonds : List Str := ["count", "bonds", "place", "bond"]
abbrev P_check_bonds : List Str := ["count", "bonds"]
abbrev s__lower : Stmt := top 12
abbrev N__lower : List Str := ["bonds", "values", "come_by", "lowered", "place", "bond", "low", "high", "room"]
abbrev P__lower : List Str := ["bonds", "values", "come_by"]
abbrev s__ring_behind : Stmt := top 13
abbrev N__ring_behind : List Str := ["count", "bonds", "come_by", "node", "_", "start", "ring"]
abbrev P__ring_behind : List Str := ["count", "bonds", "come_by", "node"]
abbrev s_relax : Stmt := top 14
abbrev N_relax : List Str := ["count", "bonds", "values", "come_by", "lowered", "_"]
abbrev P_relax : List Str := ["count", "bonds"]
abbrev s_solve : Stmt := top 15
abbrev N_solve : List Str := ["count", "bonds", "values", "ring"]
abbrev P_solve : List Str := ["count", "bonds"]
abbrev s_spread : Stmt := top 16
abbrev N_spread : List Str := ["count", "bonds", "first", "values", "come_by", "_"]
abbrev P_spread : List Str := ["count", "bonds", "first"]
abbrev s_most_apart : Stmt := top 17
abbrev N_most_apart : List Str := ["count", "bonds", "first", "second", "ring", "values", "come_by", "path", "node", "value"]
abbrev P_most_apart : List Str := ["count", "bonds", "first", "second"]
abbrev s_is_values : Stmt := top 18
abbrev N_is_values : List Str := ["count", "bonds", "values", "value", "low", "high", "room"]
abbrev P_is_values : List Str := ["count", "bonds", "values"]
abbrev s_are_linked : Stmt := top 19
abbrev N_are_linked : List Str := ["chain", "place"]
abbrev P_are_linked : List Str := ["chain"]
abbrev s_is_closed : Stmt := top 20
abbrev N_is_closed : List Str := ["chain", "bond"]
abbrev P_is_closed : List Str := ["chain"]
abbrev s__bonds_at : Stmt := top 21
abbrev N__bonds_at : List Str := ["bonds", "places", "chain", "place"]
abbrev P__bonds_at : List Str := ["bonds", "places"]
abbrev s_is_bond_ring : Stmt := top 22
abbrev N_is_bond_ring : List Str := ["count", "bonds", "ring", "chain"]
abbrev P_is_bond_ring : List Str := ["count", "bonds", "ring"]
abbrev s_is_bond_path : Stmt := top 23
abbrev N_is_bond_path : List Str := ["count", "bonds", "first", "second", "path", "chain"]
abbrev P_is_bond_path : List Str := ["count", "bonds", "first", "second", "path"]
abbrev s_is_shore : Stmt := top 24
abbrev N_is_shore : List Str := ["count", "bonds", "first", "second", "nodes", "place", "node", "low", "high", "_"]
abbrev P_is_shore : List Str := ["count", "bonds", "first", "second", "nodes"]
abbrev s__law_numbers : Stmt := top 26
abbrev N__law_numbers : List Str := ["script", "many", "extra", "found", "k", "cell", "one", "two"]
abbrev P__law_numbers : List Str := ["script", "many"]
abbrev s__law_digits : Stmt := top 27
abbrev N__law_digits : List Str := ["number", "bases", "found", "base"]
abbrev P__law_digits : List Str := ["number", "bases"]
abbrev s__law_equal : Stmt := top 28
abbrev N__law_equal : List Str := ["told", "due"]
abbrev P__law_equal : List Str := ["told", "due"]
abbrev s__law_whole : Stmt := top 29
abbrev N__law_whole : List Str := ["value"]
abbrev P__law_whole : List Str := ["value"]
abbrev s__law_values : Stmt := top 30
abbrev N__law_values : List Str := ["numbers", "count", "digits"]
abbrev P__law_values : List Str := ["numbers", "count"]
abbrev s__law_bonds : Stmt := top 31
abbrev N__law_bonds : List Str := ["numbers", "count", "size", "mode", "planted", "bonds", "k", "number", "digits", "low", "high", "apart"]
abbrev P__law_bonds : List Str := ["numbers", "count", "size", "mode"]
abbrev s__law_kept : Stmt := top 32
abbrev N__law_kept : List Str := ["count", "bonds", "paper", "number", "low", "high", "apart"]
abbrev P__law_kept : List Str := ["count", "bonds", "paper"]
abbrev s__law_is_greatest : Stmt := top 33
abbrev N__law_is_greatest : List Str := ["bonds", "paper", "done", "k", "low", "high", "apart", "number"]
abbrev P__law_is_greatest : List Str := ["bonds", "paper"]
abbrev s__law_is_wheel : Stmt := top 34
abbrev N__law_is_wheel : List Str := ["bonds", "paper", "spot", "k"]
abbrev P__law_is_wheel : List Str := ["bonds", "paper"]
abbrev s__law_ask_values : Stmt := top 35
abbrev N__law_ask_values : List Str := ["count", "bonds", "papers", "paper"]
abbrev P__law_ask_values : List Str := ["count", "bonds", "papers"]
abbrev s__law_ask_wheels : Stmt := top 36
abbrev N__law_ask_wheels : List Str := ["count", "bonds", "papers", "paper", "handed", "due"]
abbrev P__law_ask_wheels : List Str := ["count", "bonds", "papers"]
abbrev s__law_value_papers : Stmt := top 37
abbrev N__law_value_papers : List Str := ["values", "number", "spot", "ahead", "behind", "papers", "one"]
abbrev P__law_value_papers : List Str := ["values", "number"]
abbrev s__law_wheel_papers : Stmt := top 38
abbrev N__law_wheel_papers : List Str := ["wheel", "size", "number", "spot", "papers", "one"]
abbrev P__law_wheel_papers : List Str := ["wheel", "size", "number"]
abbrev s__law_refusal : Stmt := top 39
abbrev N__law_refusal : List Str := ["ask", "count", "bonds", "told", "e"]
abbrev P__law_refusal : List Str := ["ask", "count", "bonds"]
abbrev s__law_ask_refusals : Stmt := top 40
abbrev N__law_ask_refusals : List Str := ["count", "bonds", "number", "digits", "wrong", "odd", "spot", "spoilt", "many", "ask", "handed"]
abbrev P__law_ask_refusals : List Str := ["count", "bonds", "number"]
abbrev s_law : Stmt := top 41
abbrev N_law : List Str := ["script", "numbers", "count", "size", "mode", "bonds", "wheel", "low", "high", "apart", "handed", "told", "papers", "planted", "k"]
abbrev P_law : List Str := ["script"]
structure Txt (P : Program) (w : World) (K : PySem.W.Frag) (mg : Str → Option Value) : Prop where
  n_all : mg "all" = none
  n_any : mg "any" = none
  n_bool : mg "bool" = none
  n_enumerate : mg "enumerate" = none
  n_int : mg "int" = none
  n_isinstance : mg "isinstance" = none
  n_len : mg "len" = none
  n_list : mg "list" = none
  n_max : mg "max" = none
  n_min : mg "min" = none
  n_range : mg "range" = none
  n_repr : mg "repr" = none
  n_reversed : mg "reversed" = none
  n_str : mg "str" = none
  n_sum : mg "sum" = none
  n_tuple : mg "tuple" = none
  n_super : mg "super" = none
  c_MOST_BONDS : ∃ t, mg "MOST_BONDS" = some (.int 300 t)
  c_MOST_NODES : ∃ t, mg "MOST_NODES" = some (.int 20 t)
  g_BadBond : mg "BadBond" = some (.ref (He.ga K "BadBond"))
  g_Contradiction : mg "Contradiction" = some (.ref (He.ga K "Contradiction"))
  g_HearsayError : mg "HearsayError" = some (.ref (He.ga K "HearsayError"))
  g_TooMany : mg "TooMany" = some (.ref (He.ga K "TooMany"))
  er_BadBond : PyX.ErrC P w K mg "BadBond" ["place"]
  er_TooMany : PyX.ErrC P w K mg "TooMany" ["limit"]
  er_Contradiction : PyX.ErrC P w K mg "Contradiction" ["ring"]
  isq_BadBond : IsT K mg is_BadBond (.ref (He.ga K "BadBond"))
  isq_Contradiction : IsT K mg is_Contradiction (.ref (He.ga K "Contradiction"))
  isq_TooMany : IsT K mg is_TooMany (.ref (He.ga K "TooMany"))
  exq_HearsayError : ExT K mg ex_HearsayError (.ref (He.ga K "HearsayError"))
  flq_limit : FlT K mg fl_limit "limit"
  flq_place : FlT K mg fl_place "place"
section
variable {P : Program} {w : World} {K : PySem.W.Frag} {mg : Str → Option Value} {base : Heap}
abbrev FnX (K : PySem.W.Frag) (x : Str) (st : Stmt) (f : Addr) (fd : FuncData) : Prop := FunD K x x (defArgs st) (defBody st) (defScope st) [] [] f fd
theorem errC_BadBond {C fI D : Addr} (T : PyX.HErr K P C fI D ["place"] (defArgs s_BadBond) (defBody s_BadBond) (defScope s_BadBond)) (hx : mg "BadBond" = some (.ref C)) (hs : mg "super" = none) : PyX.ErrC P w K mg "BadBond" ["place"] :=
  PyX.errC_of (f := (_, ⟨_, _, _, _⟩)) (fp := []) T ⟨⟨_, rfl, rfl⟩, by decide +kernel, rfl, rfl, by decide +kernel, by decide +kernel, by decide +kernel, by decide, fun _ => ⟨_, rfl⟩⟩ hx hs (fun _ _ _ _ _ _ _ _ _ us hl => match us, hl with | [_], _ => .of_eq rfl)
theorem errC_TooMany {C fI D : Addr} (T : PyX.HErr K P C fI D ["limit"] (defArgs s_TooMany) (defBody s_TooMany) (defScope s_TooMany)) (hx : mg "TooMany" = some (.ref C)) (hs : mg "super" = none) : PyX.ErrC P w K mg "TooMany" ["limit"] :=
  PyX.errC_of (f := (_, ⟨_, _, _, _⟩)) (fp := []) T ⟨⟨_, rfl, rfl⟩, by decide +kernel, rfl, rfl, by decide +kernel, by decide +kernel, by decide +kernel, by decide, fun _ => ⟨_, rfl⟩⟩ hx hs (fun _ _ _ _ _ _ _ _ _ us hl => match us, hl with | [_], _ => .of_eq rfl)
theorem errC_Contradiction {C fI D : Addr} (T : PyX.HErr K P C fI D ["ring"] (defArgs s_Contradiction) (defBody s_Contradiction) (defScope s_Contradiction)) (hx : mg "Contradiction" = some (.ref C)) (hs : mg "super" = none) : PyX.ErrC P w K mg "Contradiction" ["ring"] :=
  PyX.errC_of (f := (_, ⟨_, _, _, _⟩)) (fp := []) T ⟨⟨_, rfl, rfl⟩, by decide +kernel, rfl, rfl, by decide +kernel, by decide +kernel, by decide +kernel, by decide, fun _ => ⟨_, rfl⟩⟩ hx hs (fun _ _ _ _ _ _ _ _ _ us hl => match us, hl with | [_], _ => .of_eq rfl)
theorem sc_is_integer : FnScope N_is_integer P_is_integer (defScope s_is_integer) := ⟨rfl, rfl, rfl, by decide +kernel, rfl, by decide +kernel, by decide +kernel⟩
theorem ok_is_integer {a : Addr} {fd : FuncData} (T : Txt P w K mg) (Fd : FnX K "is_integer" s_is_integer a fd) (hm : mg "is_integer" = some (.ref a)) : CalG P w K mg base (L2.CX P w) 1 "is_integer" 1 f_is_integer := by
  refine ⟨a, fd, P_is_integer, PyGa.FnG.body Fd (CX := (L2.CX P w)) (k := 0) sc_is_integer (sp_len rfl) fun cdv A outer s H vs Q E hr hq h => ⟨_, ?_, body_read (b := b_is_integer) rfl h⟩, hm, Fd.kp, Fd.bindsN (fun _ _ _ _ _ _ us hl => match us, hl with | [_], _ => rfl)⟩
  exact tk_go (takes_of rfl rfl rfl rfl) fun tk => ss_one (s_ret (e_and (e_isi .int T.n_isinstance T.n_int (by decide +kernel) (e_var 0)) (e_one (e_not (e_isi .bool T.n_isinstance T.n_bool (by decide +kernel) (e_var 0))))))
theorem sc__is_bond : FnScope N__is_bond P__is_bond (defScope s__is_bond) := ⟨rfl, rfl, rfl, by decide +kernel, rfl, by decide +kernel, by decide +kernel⟩
theorem ok__is_bond {a : Addr} {fd : FuncData} (T : Txt P w K mg) (Fd : FnX K "_is_bond" s__is_bond a fd) (hm : mg "_is_bond" = some (.ref a)) (C_is_integer : CalG P w K mg base (L2.CX P w) 1 "is_integer" 1 f_is_integer) : CalG P w K mg base (L2.CX P w) 2 "_is_bond" 2 f__is_bond := by
  refine ⟨a, fd, P__is_bond, PyGa.FnG.body Fd (CX := (L2.CX P w)) (k := 1) sc__is_bond (sp_len rfl) fun cdv A outer s H vs Q E hr hq h => ⟨_, ?_, body_read (b := b__is_bond) rfl h⟩, hm, Fd.kp, Fd.bindsN (fun _ _ _ _ _ _ us hl => match us, hl with | [_, _], _ => rfl)⟩
  exact tk_go (takes_of rfl rfl rfl rfl) fun tk => ss_cons (s_if (t_w (t_or (t_not (t_val (e_isi .tuple T.n_isinstance T.n_tuple (by decide +kernel) (e_var 1)))) (t_or (t_cmp (o_ne hr) (e_b1 (c_len) T.n_len (by decide +kernel) (e_var 1)) (e_int)) (t_or1 (t_not (t_val (e_b1 (c_all rfl) T.n_all (by decide +kernel) (e_lc [("part", 2)] rfl sc__is_bond.nd (i_any (e_var 1)) (blkOk_by (own := [("part", 2)]) (N := N__is_bond) (sc := defScope s__is_bond) (by decide +kernel)) (fun _ _ _ _ _ => g_name (own := [2]) 2 sc__is_bond.nd) (fun _ _ _ _ _ => cs_nil) (fun _ _ _ _ _ => e_callG C_is_integer hr hq (by decide) takes0 (a_cons (e_var 2) (a_nil)) (hn := as_cons (as_nil rfl))))))))))) (ss_one (s_ret (e_bl))) (ss_nil))
      (ss_one (s_ret (e_and (e_chain o_le o_lt (e_int) (e_idx (e_var 1) (e_int)) (e_var 0)) (e_one (e_chain o_le o_lt (e_int) (e_idx (e_var 1) (e_int)) (e_var 0))))))
theorem sc_check_bonds : FnScope N_check_bonds P_check_bonds (defScope s_check_bonds) := ⟨rfl, rfl, rfl, by decide +kernel, rfl, by decide +kernel, by decide +kernel⟩
theorem ok_check_bonds {a : Addr} {fd : FuncData} (T : Txt P w K mg) (Fd : FnX K "check_bonds" s_check_bonds a fd) (hm : mg "check_bonds" = some (.ref a)) (C_is_integer : CalG P w K mg base (L2.CX P w) 1 "is_integer" 1 f_is_integer) (C__is_bond : CalG P w K mg base (L2.CX P w) 2 "_is_bond" 2 f__is_bond) : CalG P w K mg base (L2.CX P w) 3 "check_bonds" 2 f_check_bonds := by
  refine ⟨a, fd, P_check_bonds, PyGa.FnG.body Fd (CX := (L2.CX P w)) (k := 2) sc_check_bonds (sp_len rfl) fun cdv A outer s H vs Q E hr hq h => ⟨_, ?_, body_read (b := b_check_bonds) rfl h⟩, hm, Fd.kp, Fd.bindsN (fun _ _ _ _ _ _ us hl => match us, hl with | [_, _], _ => rfl)⟩
  exact tk_go (takes_of rfl rfl rfl rfl) fun tk => ss_cons (s_if (t_w (t_or (t_not (t_val (e_callG C_is_integer hr hq (by decide) tk (a_cons (e_var 0) (a_nil)) (hn := as_cons (as_nil rfl))))) (t_or1 (t_not (t_chain o_le o_le (e_int) (e_var 0) (e_gint' T.c_MOST_NODES)))))) (ss_one (s_raise T.er_BadBond rfl hr tk (a_cons (e_un o_neg (e_int)) (a_nil)))) (ss_nil))
      (ss_cons (s_if (t_cmp o_gt (e_b1 (c_len) T.n_len (by decide +kernel) (e_var 1)) (e_gint' T.c_MOST_BONDS)) (ss_one (s_raise T.er_TooMany rfl hr tk (a_cons (e_gint' T.c_MOST_BONDS) (a_nil)))) (ss_nil))
      (ss_one (s_for (own := [2, 3]) (passes_of rfl) rfl (i_enum T.n_enumerate (e_var 1)) (g_tup rfl (gs_cons (g_name (own := [2, 3]) 2 sc_check_bonds.nd) (gs_cons (g_name (own := [2, 3]) 3 sc_check_bonds.nd) (gs_nil)))) (ss_one (s_if (t_not (t_val (e_callG C__is_bond hr hq (by decide) tk (a_cons (e_var 0) (a_cons (e_var 3) (a_nil))) (hn := as_cons (as_cons (as_nil rfl)))))) (ss_one (s_raise T.er_BadBond rfl hr tk (a_cons (e_var 2) (a_nil)))) (ss_nil))))))
theorem sc__lower : FnScope N__lower P__lower (defScope s__lower) := ⟨rfl, rfl, rfl, by decide +kernel, rfl, by decide +kernel, by decide +kernel⟩
theorem ok__lower {a : Addr} {fd : FuncData} (T : Txt P w K mg) (Fd : FnX K "_lower" s__lower a fd) (hm : mg "_lower" = some (.ref a)) : CalG P w K mg base (L2.CX P w) 1 "_lower" 3 f__lower := by
  refine ⟨a, fd, P__lower, PyGa.FnG.body Fd (CX := (L2.CX P w)) (k := 0) sc__lower (sp_len rfl) fun cdv A outer s H vs Q E hr hq h => ⟨_, ?_, body_read (b := b__lower) rfl h⟩, hm, Fd.kp, Fd.bindsN (fun _ _ _ _ _ _ us hl => match us, hl with | [_, _, _], _ => rfl)⟩
  exact tk_go (takes_of rfl rfl rfl rfl) fun tk => ss_cons (s_set 3 sc__lower.nd (e_un o_neg (e_int)))
      (ss_cons (s_for (own := [4, 5]) (passes_of rfl) rfl (i_enum T.n_enumerate (e_var 0)) (g_tup rfl (gs_cons (g_name (own := [4, 5]) 4 sc__lower.nd) (gs_cons (g_name (own := [4, 5]) 5 sc__lower.nd) (gs_nil)))) (ss_cons (s_asg (own := [6, 7, 8]) (e_var 5) (g_tup rfl (gs_cons (g_name (own := [6, 7, 8]) 6 sc__lower.nd) (gs_cons (g_name (own := [6, 7, 8]) 7 sc__lower.nd) (gs_cons (g_name (own := [6, 7, 8]) 8 sc__lower.nd) (gs_nil))))))
      (ss_one (s_if (t_w (t_and (t_cmp o_notN (e_idx (e_var 1) (e_var 6)) (e_non)) (t_and1 (t_w (t_or (t_cmp o_isN (e_idx (e_var 1) (e_var 7)) (e_non)) (t_or1 (t_cmp o_lt (e_op o_add (e_idx (e_var 1) (e_var 6)) (e_var 8)) (e_idx (e_var 1) (e_var 7))))))))) (ss_cons (s_setI (e_op o_add (e_idx (e_var 1) (e_var 6)) (e_var 8)) (e_var 1) (e_var 7) (gsub_i (e_var 1) (e_var 7)))
      (ss_cons (s_setI (e_var 4) (e_var 2) (e_var 7) (gsub_i (e_var 2) (e_var 7)))
      (ss_one (s_set 3 sc__lower.nd (e_var 7))))) (ss_nil)))))
      (ss_one (s_ret (e_var 3))))
theorem sc__ring_behind : FnScope N__ring_behind P__ring_behind (defScope s__ring_behind) := ⟨rfl, rfl, rfl, by decide +kernel, rfl, by decide +kernel, by decide +kernel⟩
theorem ok__ring_behind {a : Addr} {fd : FuncData} (T : Txt P w K mg) (Fd : FnX K "_ring_behind" s__ring_behind a fd) (hm : mg "_ring_behind" = some (.ref a)) : CalG P w K mg base (L2.CX P w) 1 "_ring_behind" 4 f__ring_behind := by
  refine ⟨a, fd, P__ring_behind, PyGa.FnG.body Fd (CX := (L2.CX P w)) (k := 0) sc__ring_behind (sp_len rfl) fun cdv A outer s H vs Q E hr hq h => ⟨_, ?_, body_read (b := b__ring_behind) rfl h⟩, hm, Fd.kp, Fd.bindsN (fun _ _ _ _ _ _ us hl => match us, hl with | [_, _, _, _], _ => rfl)⟩
  exact tk_go (takes_of rfl rfl rfl rfl) fun tk => ss_cons (s_for (own := [4]) (passes_of rfl) rfl (i_range1 T.n_range (e_var 0)) (g_name (own := [4]) 4 sc__ring_behind.nd) (ss_one (s_set 3 sc__ring_behind.nd (e_idx (e_idx (e_var 1) (e_idx (e_var 2) (e_var 3))) (e_int)))))
      (ss_cons (s_set 5 sc__ring_behind.nd (e_var 3))
      (ss_cons (s_set 6 sc__ring_behind.nd (e_lst (a_cons (e_idx (e_var 2) (e_var 3)) (a_nil))))
      (ss_cons (s_set 3 sc__ring_behind.nd (e_idx (e_idx (e_var 1) (e_idx (e_var 2) (e_var 3))) (e_int)))
      (ss_cons (s_while (passes_of rfl) (t_cmp (o_ne hr) (e_var 3) (e_var 5)) (ss_cons (s_expr (e_app (e_var 6) (e_idx (e_var 2) (e_var 3))))
      (ss_one (s_set 3 sc__ring_behind.nd (e_idx (e_idx (e_var 1) (e_idx (e_var 2) (e_var 3))) (e_int))))))
      (ss_one (s_ret (e_lstRev rfl T.n_list T.n_reversed (e_var 6))))))))
theorem sc_relax : FnScope N_relax P_relax (defScope s_relax) := ⟨rfl, rfl, rfl, by decide +kernel, rfl, by decide +kernel, by decide +kernel⟩
theorem ok_relax {a : Addr} {fd : FuncData} (T : Txt P w K mg) (Fd : FnX K "relax" s_relax a fd) (hm : mg "relax" = some (.ref a)) (C__lower : CalG P w K mg base (L2.CX P w) 1 "_lower" 3 f__lower) (C__ring_behind : CalG P w K mg base (L2.CX P w) 1 "_ring_behind" 4 f__ring_behind) : CalG P w K mg base (L2.CX P w) 2 "relax" 2 f_relax := by
  refine ⟨a, fd, P_relax, PyGa.FnG.body Fd (CX := (L2.CX P w)) (k := 1) sc_relax (sp_len rfl) fun cdv A outer s H vs Q E hr hq h => ⟨_, ?_, body_read (b := b_relax) rfl h⟩, hm, Fd.kp, Fd.bindsN (fun _ _ _ _ _ _ us hl => match us, hl with | [_, _], _ => rfl)⟩
  exact tk_go (takes_of rfl rfl rfl rfl) fun tk => ss_cons (s_setLc 2 [("_", 5)] rfl sc_relax.nd (i_range1 T.n_range (e_var 0)) (blkOk_by (own := [("_", 5)]) (N := N_relax) (sc := defScope s_relax) (by decide +kernel)) (fun _ _ _ _ _ => g_name (own := [5]) 5 sc_relax.nd) (fun _ _ _ _ _ => cs_nil) (fun _ _ _ _ _ => e_int))
      (ss_cons (s_setLc 3 [("_", 5)] rfl sc_relax.nd (i_range1 T.n_range (e_var 0)) (blkOk_by (own := [("_", 5)]) (N := N_relax) (sc := defScope s_relax) (by decide +kernel)) (fun _ _ _ _ _ => g_name (own := [5]) 5 sc_relax.nd) (fun _ _ _ _ _ => cs_nil) (fun _ _ _ _ _ => e_un o_neg (e_int)))
      (ss_cons (s_set 4 sc_relax.nd (e_un o_neg (e_int)))
      (ss_cons (s_for (own := [5]) (passes_of rfl) rfl (i_range1 T.n_range (e_var 0)) (g_name (own := [5]) 5 sc_relax.nd) (ss_cons (s_set 4 sc_relax.nd (e_callG C__lower hr hq (by decide) tk (a_cons (e_var 1) (a_cons (e_var 2) (a_cons (e_var 3) (a_nil)))) (hn := as_cons (as_cons (as_cons (as_nil rfl))))))
      (ss_one (s_if (t_cmp (o_eq hr) (e_var 4) (e_un o_neg (e_int))) (ss_one (s_ret (e_tup (a_cons (e_t1 (c_tuple) T.n_tuple (by decide +kernel) (e_var 2)) (a_cons (e_non) (a_nil)))))) (ss_nil)))))
      (ss_one (s_ret (e_tup (a_cons (e_non) (a_cons (e_callG C__ring_behind hr hq (by decide) tk (a_cons (e_var 0) (a_cons (e_var 1) (a_cons (e_var 3) (a_cons (e_var 4) (a_nil))))) (hn := as_cons (as_cons (as_cons (as_cons (as_nil rfl)))))) (a_nil)))))))))
theorem sc_solve : FnScope N_solve P_solve (defScope s_solve) := ⟨rfl, rfl, rfl, by decide +kernel, rfl, by decide +kernel, by decide +kernel⟩
theorem ok_solve {a : Addr} {fd : FuncData} (T : Txt P w K mg) (Fd : FnX K "solve" s_solve a fd) (hm : mg "solve" = some (.ref a)) (C_check_bonds : CalG P w K mg base (L2.CX P w) 3 "check_bonds" 2 f_check_bonds) (C_relax : CalG P w K mg base (L2.CX P w) 2 "relax" 2 f_relax) : CalG P w K mg base (L2.CX P w) 4 "solve" 2 f_solve := by
  refine ⟨a, fd, P_solve, PyGa.FnG.body Fd (CX := (L2.CX P w)) (k := 3) sc_solve (sp_len rfl) fun cdv A outer s H vs Q E hr hq h => ⟨_, ?_, body_read (b := b_solve) rfl h⟩, hm, Fd.kp, Fd.bindsN (fun _ _ _ _ _ _ us hl => match us, hl with | [_, _], _ => rfl)⟩
  exact tk_go (takes_of rfl rfl rfl rfl) fun tk => ss_cons (s_expr (e_callG C_check_bonds hr hq (by decide) tk (a_cons (e_var 0) (a_cons (e_var 1) (a_nil))) (hn := as_cons (as_cons (as_nil rfl)))))
      (ss_cons (s_asg (own := [2, 3]) (e_callG C_relax hr hq (by decide) tk (a_cons (e_var 0) (a_cons (e_var 1) (a_nil))) (hn := as_cons (as_cons (as_nil rfl)))) (g_tup rfl (gs_cons (g_name (own := [2, 3]) 2 sc_solve.nd) (gs_cons (g_name (own := [2, 3]) 3 sc_solve.nd) (gs_nil)))))
      (ss_cons (s_if (t_cmp o_isN (e_var 2) (e_non)) (ss_one (s_ret (e_tup (a_cons (e_str (by decide +kernel)) (a_cons (e_var 3) (a_nil)))))) (ss_nil))
      (ss_one (s_ret (e_tup (a_cons (e_str (by decide +kernel)) (a_cons (e_var 2) (a_nil))))))))
theorem sc_spread : FnScope N_spread P_spread (defScope s_spread) := ⟨rfl, rfl, rfl, by decide +kernel, rfl, by decide +kernel, by decide +kernel⟩
theorem ok_spread {a : Addr} {fd : FuncData} (T : Txt P w K mg) (Fd : FnX K "spread" s_spread a fd) (hm : mg "spread" = some (.ref a)) (C__lower : CalG P w K mg base (L2.CX P w) 1 "_lower" 3 f__lower) : CalG P w K mg base (L2.CX P w) 2 "spread" 3 f_spread := by
  refine ⟨a, fd, P_spread, PyGa.FnG.body Fd (CX := (L2.CX P w)) (k := 1) sc_spread (sp_len rfl) fun cdv A outer s H vs Q E hr hq h => ⟨_, ?_, body_read (b := b_spread) rfl h⟩, hm, Fd.kp, Fd.bindsN (fun _ _ _ _ _ _ us hl => match us, hl with | [_, _, _], _ => rfl)⟩
  exact tk_go (takes_of rfl rfl rfl rfl) fun tk => ss_cons (s_setLc 3 [("_", 5)] rfl sc_spread.nd (i_range1 T.n_range (e_var 0)) (blkOk_by (own := [("_", 5)]) (N := N_spread) (sc := defScope s_spread) (by decide +kernel)) (fun _ _ _ _ _ => g_name (own := [5]) 5 sc_spread.nd) (fun _ _ _ _ _ => cs_nil) (fun _ _ _ _ _ => e_non))
      (ss_cons (s_setI (e_int) (e_var 3) (e_var 2) (gsub_i (e_var 3) (e_var 2)))
      (ss_cons (s_setLc 4 [("_", 5)] rfl sc_spread.nd (i_range1 T.n_range (e_var 0)) (blkOk_by (own := [("_", 5)]) (N := N_spread) (sc := defScope s_spread) (by decide +kernel)) (fun _ _ _ _ _ => g_name (own := [5]) 5 sc_spread.nd) (fun _ _ _ _ _ => cs_nil) (fun _ _ _ _ _ => e_un o_neg (e_int)))
      (ss_cons (s_for (own := [5]) (passes_of rfl) rfl (i_range1 T.n_range (e_var 0)) (g_name (own := [5]) 5 sc_spread.nd) (ss_one (s_if (t_cmp (o_eq hr) (e_callG C__lower hr hq (by decide) tk (a_cons (e_var 1) (a_cons (e_var 3) (a_cons (e_var 4) (a_nil)))) (hn := as_cons (as_cons (as_cons (as_nil rfl))))) (e_un o_neg (e_int))) (ss_one (s_ret (e_tup (a_cons (e_var 3) (a_cons (e_var 4) (a_nil)))))) (ss_nil))))
      (ss_one (s_ret (e_tup (a_cons (e_var 3) (a_cons (e_var 4) (a_nil)))))))))
theorem sc_most_apart : FnScope N_most_apart P_most_apart (defScope s_most_apart) := ⟨rfl, rfl, rfl, by decide +kernel, rfl, by decide +kernel, by decide +kernel⟩
theorem ok_most_apart {a : Addr} {fd : FuncData} (T : Txt P w K mg) (Fd : FnX K "most_apart" s_most_apart a fd) (hm : mg "most_apart" = some (.ref a)) (C_check_bonds : CalG P w K mg base (L2.CX P w) 3 "check_bonds" 2 f_check_bonds) (C_relax : CalG P w K mg base (L2.CX P w) 2 "relax" 2 f_relax) (C_spread : CalG P w K mg base (L2.CX P w) 2 "spread" 3 f_spread) : CalG P w K mg base (L2.CX P w) 4 "most_apart" 4 f_most_apart := by
  refine ⟨a, fd, P_most_apart, PyGa.FnG.body Fd (CX := (L2.CX P w)) (k := 3) sc_most_apart (sp_len rfl) fun cdv A outer s H vs Q E hr hq h => ⟨_, ?_, body_read (b := b_most_apart) rfl h⟩, hm, Fd.kp, Fd.bindsN (fun _ _ _ _ _ _ us hl => match us, hl with | [_, _, _, _], _ => rfl)⟩
  exact tk_go (takes_of rfl rfl rfl rfl) fun tk => ss_cons (s_expr (e_callG C_check_bonds hr hq (by decide) tk (a_cons (e_var 0) (a_cons (e_var 1) (a_nil))) (hn := as_cons (as_cons (as_nil rfl)))))
      (ss_cons (s_set 4 sc_most_apart.nd (e_idx (e_callG C_relax hr hq (by decide) tk (a_cons (e_var 0) (a_cons (e_var 1) (a_nil))) (hn := as_cons (as_cons (as_nil rfl)))) (e_int)))
      (ss_cons (s_if (t_cmp o_notN (e_var 4) (e_non)) (ss_one (s_raise T.er_Contradiction rfl hr tk (a_cons (e_var 4) (a_nil)))) (ss_nil))
      (ss_cons (s_asg (own := [5, 6]) (e_callG C_spread hr hq (by decide) tk (a_cons (e_var 0) (a_cons (e_var 1) (a_cons (e_var 2) (a_nil)))) (hn := as_cons (as_cons (as_cons (as_nil rfl))))) (g_tup rfl (gs_cons (g_name (own := [5, 6]) 5 sc_most_apart.nd) (gs_cons (g_name (own := [5, 6]) 6 sc_most_apart.nd) (gs_nil)))))
      (ss_cons (s_if (t_cmp o_isN (e_idx (e_var 5) (e_var 3)) (e_non)) (ss_one (s_ret (e_tup (a_cons (e_str (by decide +kernel)) (a_cons (e_lc [("node", 8), ("value", 9)] rfl sc_most_apart.nd (i_enum T.n_enumerate (e_var 5)) (blkOk_by (own := [("node", 8), ("value", 9)]) (N := N_most_apart) (sc := defScope s_most_apart) (by decide +kernel)) (fun _ _ _ _ _ => g_tup rfl (gs_cons (g_name (own := [8, 9]) 8 sc_most_apart.nd) (gs_cons (g_name (own := [8, 9]) 9 sc_most_apart.nd) (gs_nil)))) (fun _ _ _ _ _ => cs_one (t_cmp o_notN (e_var 9) (e_non))) (fun _ _ _ _ _ => e_var 8)) (a_nil)))))) (ss_nil))
      (ss_cons (s_set 7 sc_most_apart.nd (e_lst (a_nil)))
      (ss_cons (s_set 8 sc_most_apart.nd (e_var 3))
      (ss_cons (s_while (passes_of rfl) (t_cmp (o_ne hr) (e_var 8) (e_var 2)) (ss_cons (s_expr (e_app (e_var 7) (e_idx (e_var 6) (e_var 8))))
      (ss_one (s_set 8 sc_most_apart.nd (e_idx (e_idx (e_var 1) (e_idx (e_var 6) (e_var 8))) (e_int))))))
      (ss_one (s_ret (e_tup (a_cons (e_str (by decide +kernel)) (a_cons (e_idx (e_var 5) (e_var 3)) (a_cons (e_lstRev rfl T.n_list T.n_reversed (e_var 7)) (a_nil))))))))))))))
theorem sc_is_values : FnScope N_is_values P_is_values (defScope s_is_values) := ⟨rfl, rfl, rfl, by decide +kernel, rfl, by decide +kernel, by decide +kernel⟩
theorem ok_is_values {a : Addr} {fd : FuncData} (T : Txt P w K mg) (Fd : FnX K "is_values" s_is_values a fd) (hm : mg "is_values" = some (.ref a)) (C_is_integer : CalG P w K mg base (L2.CX P w) 1 "is_integer" 1 f_is_integer) (C_check_bonds : CalG P w K mg base (L2.CX P w) 3 "check_bonds" 2 f_check_bonds) : CalG P w K mg base (L2.CX P w) 4 "is_values" 3 f_is_values := by
  refine ⟨a, fd, P_is_values, PyGa.FnG.body Fd (CX := (L2.CX P w)) (k := 3) sc_is_values (sp_len rfl) fun cdv A outer s H vs Q E hr hq h => ⟨_, ?_, body_read (b := b_is_values) rfl h⟩, hm, Fd.kp, Fd.bindsN (fun _ _ _ _ _ _ us hl => match us, hl with | [_, _, _], _ => rfl)⟩
  exact tk_go (takes_of rfl rfl rfl rfl) fun tk => ss_cons (s_expr (e_callG C_check_bonds hr hq (by decide) tk (a_cons (e_var 0) (a_cons (e_var 1) (a_nil))) (hn := as_cons (as_cons (as_nil rfl)))))
      (ss_cons (s_if (t_w (t_or (t_not (t_val (e_isi .tuple T.n_isinstance T.n_tuple (by decide +kernel) (e_var 2)))) (t_or1 (t_cmp (o_ne hr) (e_b1 (c_len) T.n_len (by decide +kernel) (e_var 2)) (e_var 0))))) (ss_one (s_ret (e_bl))) (ss_nil))
      (ss_cons (s_if (t_not (t_val (e_b1 (c_all rfl) T.n_all (by decide +kernel) (e_lc [("value", 3)] rfl sc_is_values.nd (i_any (e_var 2)) (blkOk_by (own := [("value", 3)]) (N := N_is_values) (sc := defScope s_is_values) (by decide +kernel)) (fun _ _ _ _ _ => g_name (own := [3]) 3 sc_is_values.nd) (fun _ _ _ _ _ => cs_nil) (fun _ _ _ _ _ => e_callG C_is_integer hr hq (by decide) takes0 (a_cons (e_var 3) (a_nil)) (hn := as_cons (as_nil rfl))))))) (ss_one (s_ret (e_bl))) (ss_nil))
      (ss_one (s_ret (e_b1 (c_all rfl) T.n_all (by decide +kernel) (e_lc [("low", 4), ("high", 5), ("room", 6)] rfl sc_is_values.nd (i_any (e_var 1)) (blkOk_by (own := [("low", 4), ("high", 5), ("room", 6)]) (N := N_is_values) (sc := defScope s_is_values) (by decide +kernel)) (fun _ _ _ _ _ => g_tup rfl (gs_cons (g_name (own := [4, 5, 6]) 4 sc_is_values.nd) (gs_cons (g_name (own := [4, 5, 6]) 5 sc_is_values.nd) (gs_cons (g_name (own := [4, 5, 6]) 6 sc_is_values.nd) (gs_nil))))) (fun _ _ _ _ _ => cs_nil) (fun _ _ _ _ _ => e_cmp o_le (e_idx (e_var 2) (e_var 5)) (e_op o_add (e_idx (e_var 2) (e_var 4)) (e_var 6)))))))))
theorem sc_are_linked : FnScope N_are_linked P_are_linked (defScope s_are_linked) := ⟨rfl, rfl, rfl, by decide +kernel, rfl, by decide +kernel, by decide +kernel⟩
theorem ok_are_linked {a : Addr} {fd : FuncData} (T : Txt P w K mg) (Fd : FnX K "are_linked" s_are_linked a fd) (hm : mg "are_linked" = some (.ref a)) : CalG P w K mg base (L2.CX P w) 1 "are_linked" 1 f_are_linked := by
  refine ⟨a, fd, P_are_linked, PyGa.FnG.body Fd (CX := (L2.CX P w)) (k := 0) sc_are_linked (sp_len rfl) fun cdv A outer s H vs Q E hr hq h => ⟨_, ?_, body_read (b := b_are_linked) rfl h⟩, hm, Fd.kp, Fd.bindsN (fun _ _ _ _ _ _ us hl => match us, hl with | [_], _ => rfl)⟩
  exact tk_go (takes_of rfl rfl rfl rfl) fun tk => ss_one (s_ret (e_b1 (c_all rfl) T.n_all (by decide +kernel) (e_lc [("place", 1)] rfl sc_are_linked.nd (i_range2 T.n_range (e_int) (e_b1 (c_len) T.n_len (by decide +kernel) (e_var 0))) (blkOk_by (own := [("place", 1)]) (N := N_are_linked) (sc := defScope s_are_linked) (by decide +kernel)) (fun _ _ _ _ _ => g_name (own := [1]) 1 sc_are_linked.nd) (fun _ _ _ _ _ => cs_nil) (fun _ _ _ _ _ => e_cmp (o_eq hr) (e_idx (e_idx (e_var 0) (e_op o_sub (e_var 1) (e_int))) (e_int)) (e_idx (e_idx (e_var 0) (e_var 1)) (e_int))))))
theorem sc_is_closed : FnScope N_is_closed P_is_closed (defScope s_is_closed) := ⟨rfl, rfl, rfl, by decide +kernel, rfl, by decide +kernel, by decide +kernel⟩
theorem ok_is_closed {a : Addr} {fd : FuncData} (T : Txt P w K mg) (Fd : FnX K "is_closed" s_is_closed a fd) (hm : mg "is_closed" = some (.ref a)) (C_are_linked : CalG P w K mg base (L2.CX P w) 1 "are_linked" 1 f_are_linked) : CalG P w K mg base (L2.CX P w) 2 "is_closed" 1 f_is_closed := by
  refine ⟨a, fd, P_is_closed, PyGa.FnG.body Fd (CX := (L2.CX P w)) (k := 1) sc_is_closed (sp_len rfl) fun cdv A outer s H vs Q E hr hq h => ⟨_, ?_, body_read (b := b_is_closed) rfl h⟩, hm, Fd.kp, Fd.bindsN (fun _ _ _ _ _ _ us hl => match us, hl with | [_], _ => rfl)⟩
  exact tk_go (takes_of rfl rfl rfl rfl) fun tk => ss_cons (s_if (t_w (t_or (t_not (t_tru (e_var 0))) (t_or (t_not (t_val (e_callG C_are_linked hr hq (by decide) tk (a_cons (e_var 0) (a_nil)) (hn := as_cons (as_nil rfl))))) (t_or1 (t_cmp (o_ne hr) (e_idx (e_idx (e_var 0) (e_op o_sub (e_b1 (c_len) T.n_len (by decide +kernel) (e_var 0)) (e_int))) (e_int)) (e_idx (e_idx (e_var 0) (e_int)) (e_int))))))) (ss_one (s_ret (e_bl))) (ss_nil))
      (ss_one (s_ret (e_cmp o_lt (e_b1 (c_sum rfl) T.n_sum (by decide +kernel) (e_lc [("bond", 1)] rfl sc_is_closed.nd (i_any (e_var 0)) (blkOk_by (own := [("bond", 1)]) (N := N_is_closed) (sc := defScope s_is_closed) (by decide +kernel)) (fun _ _ _ _ _ => g_name (own := [1]) 1 sc_is_closed.nd) (fun _ _ _ _ _ => cs_nil) (fun _ _ _ _ _ => e_idx (e_var 1) (e_int)))) (e_int))))
theorem sc__bonds_at : FnScope N__bonds_at P__bonds_at (defScope s__bonds_at) := ⟨rfl, rfl, rfl, by decide +kernel, rfl, by decide +kernel, by decide +kernel⟩
theorem ok__bonds_at {a : Addr} {fd : FuncData} (T : Txt P w K mg) (Fd : FnX K "_bonds_at" s__bonds_at a fd) (hm : mg "_bonds_at" = some (.ref a)) (C_is_integer : CalG P w K mg base (L2.CX P w) 1 "is_integer" 1 f_is_integer) : CalG P w K mg base (L2.CX P w) 2 "_bonds_at" 2 f__bonds_at := by
  refine ⟨a, fd, P__bonds_at, PyGa.FnG.body Fd (CX := (L2.CX P w)) (k := 1) sc__bonds_at (sp_len rfl) fun cdv A outer s H vs Q E hr hq h => ⟨_, ?_, body_read (b := b__bonds_at) rfl h⟩, hm, Fd.kp, Fd.bindsN (fun _ _ _ _ _ _ us hl => match us, hl with | [_, _], _ => rfl)⟩
  exact tk_go (takes_of rfl rfl rfl rfl) fun tk => ss_cons (s_if (t_not (t_val (e_isi .list T.n_isinstance T.n_list (by decide +kernel) (e_var 1)))) (ss_one (s_ret (e_non))) (ss_nil))
      (ss_cons (s_set 2 sc__bonds_at.nd (e_lst (a_nil)))
      (ss_cons (s_for (own := [3]) (passes_of rfl) rfl (i_any (e_var 1)) (g_name (own := [3]) 3 sc__bonds_at.nd) (ss_cons (s_if (t_w (t_or (t_not (t_val (e_callG C_is_integer hr hq (by decide) tk (a_cons (e_var 3) (a_nil)) (hn := as_cons (as_nil rfl))))) (t_or1 (t_not (t_chain o_le o_lt (e_int) (e_var 3) (e_b1 (c_len) T.n_len (by decide +kernel) (e_var 0))))))) (ss_one (s_ret (e_non))) (ss_nil))
      (ss_one (s_expr (e_app (e_var 2) (e_idx (e_var 0) (e_var 3)))))))
      (ss_one (s_ret (e_var 2)))))
theorem sc_is_bond_ring : FnScope N_is_bond_ring P_is_bond_ring (defScope s_is_bond_ring) := ⟨rfl, rfl, rfl, by decide +kernel, rfl, by decide +kernel, by decide +kernel⟩
theorem ok_is_bond_ring {a : Addr} {fd : FuncData} (T : Txt P w K mg) (Fd : FnX K "is_bond_ring" s_is_bond_ring a fd) (hm : mg "is_bond_ring" = some (.ref a)) (C_check_bonds : CalG P w K mg base (L2.CX P w) 3 "check_bonds" 2 f_check_bonds) (C_is_closed : CalG P w K mg base (L2.CX P w) 2 "is_closed" 1 f_is_closed) (C__bonds_at : CalG P w K mg base (L2.CX P w) 2 "_bonds_at" 2 f__bonds_at) : CalG P w K mg base (L2.CX P w) 4 "is_bond_ring" 3 f_is_bond_ring := by
  refine ⟨a, fd, P_is_bond_ring, PyGa.FnG.body Fd (CX := (L2.CX P w)) (k := 3) sc_is_bond_ring (sp_len rfl) fun cdv A outer s H vs Q E hr hq h => ⟨_, ?_, body_read (b := b_is_bond_ring) rfl h⟩, hm, Fd.kp, Fd.bindsN (fun _ _ _ _ _ _ us hl => match us, hl with | [_, _, _], _ => rfl)⟩
  exact tk_go (takes_of rfl rfl rfl rfl) fun tk => ss_cons (s_expr (e_callG C_check_bonds hr hq (by decide) tk (a_cons (e_var 0) (a_cons (e_var 1) (a_nil))) (hn := as_cons (as_cons (as_nil rfl)))))
      (ss_cons (s_set 3 sc_is_bond_ring.nd (e_callG C__bonds_at hr hq (by decide) tk (a_cons (e_var 1) (a_cons (e_var 2) (a_nil))) (hn := as_cons (as_cons (as_nil rfl)))))
      (ss_one (s_ret (e_and (e_cmp o_notN (e_var 3) (e_non)) (e_one (e_callG C_is_closed hr hq (by decide) tk (a_cons (e_var 3) (a_nil)) (hn := as_cons (as_nil rfl))))))))
theorem sc_is_bond_path : FnScope N_is_bond_path P_is_bond_path (defScope s_is_bond_path) := ⟨rfl, rfl, rfl, by decide +kernel, rfl, by decide +kernel, by decide +kernel⟩
theorem ok_is_bond_path {a : Addr} {fd : FuncData} (T : Txt P w K mg) (Fd : FnX K "is_bond_path" s_is_bond_path a fd) (hm : mg "is_bond_path" = some (.ref a)) (C_check_bonds : CalG P w K mg base (L2.CX P w) 3 "check_bonds" 2 f_check_bonds) (C_are_linked : CalG P w K mg base (L2.CX P w) 1 "are_linked" 1 f_are_linked) (C__bonds_at : CalG P w K mg base (L2.CX P w) 2 "_bonds_at" 2 f__bonds_at) : CalG P w K mg base (L2.CX P w) 4 "is_bond_path" 5 f_is_bond_path := by
  refine ⟨a, fd, P_is_bond_path, PyGa.FnG.body Fd (CX := (L2.CX P w)) (k := 3) sc_is_bond_path (sp_len rfl) fun cdv A outer s H vs Q E hr hq h => ⟨_, ?_, body_read (b := b_is_bond_path) rfl h⟩, hm, Fd.kp, Fd.bindsN (fun _ _ _ _ _ _ us hl => match us, hl with | [_, _, _, _, _], _ => rfl)⟩
  exact tk_go (takes_of rfl rfl rfl rfl) fun tk => ss_cons (s_expr (e_callG C_check_bonds hr hq (by decide) tk (a_cons (e_var 0) (a_cons (e_var 1) (a_nil))) (hn := as_cons (as_cons (as_nil rfl)))))
      (ss_cons (s_set 5 sc_is_bond_path.nd (e_callG C__bonds_at hr hq (by decide) tk (a_cons (e_var 1) (a_cons (e_var 4) (a_nil))) (hn := as_cons (as_cons (as_nil rfl)))))
      (ss_cons (s_if (t_cmp o_isN (e_var 5) (e_non)) (ss_one (s_ret (e_bl))) (ss_nil))
      (ss_cons (s_if (t_not (t_tru (e_var 5))) (ss_one (s_ret (e_cmp (o_eq hr) (e_var 2) (e_var 3)))) (ss_nil))
      (ss_one (s_ret (e_and (e_callG C_are_linked hr hq (by decide) tk (a_cons (e_var 5) (a_nil)) (hn := as_cons (as_nil rfl))) (e_and (e_cmp (o_eq hr) (e_idx (e_idx (e_var 5) (e_int)) (e_int)) (e_var 2)) (e_one (e_cmp (o_eq hr) (e_idx (e_idx (e_var 5) (e_op o_sub (e_b1 (c_len) T.n_len (by decide +kernel) (e_var 5)) (e_int))) (e_int)) (e_var 3))))))))))
theorem sc_is_shore : FnScope N_is_shore P_is_shore (defScope s_is_shore) := ⟨rfl, rfl, rfl, by decide +kernel, rfl, by decide +kernel, by decide +kernel⟩
theorem ok_is_shore {a : Addr} {fd : FuncData} (T : Txt P w K mg) (Fd : FnX K "is_shore" s_is_shore a fd) (hm : mg "is_shore" = some (.ref a)) (C_is_integer : CalG P w K mg base (L2.CX P w) 1 "is_integer" 1 f_is_integer) (C_check_bonds : CalG P w K mg base (L2.CX P w) 3 "check_bonds" 2 f_check_bonds) : CalG P w K mg base (L2.CX P w) 4 "is_shore" 5 f_is_shore := by
  refine ⟨a, fd, P_is_shore, PyGa.FnG.body Fd (CX := (L2.CX P w)) (k := 3) sc_is_shore (sp_len rfl) fun cdv A outer s H vs Q E hr hq h => ⟨_, ?_, body_read (b := b_is_shore) rfl h⟩, hm, Fd.kp, Fd.bindsN (fun _ _ _ _ _ _ us hl => match us, hl with | [_, _, _, _, _], _ => rfl)⟩
  exact tk_go (takes_of rfl rfl rfl rfl) fun tk => ss_cons (s_expr (e_callG C_check_bonds hr hq (by decide) tk (a_cons (e_var 0) (a_cons (e_var 1) (a_nil))) (hn := as_cons (as_cons (as_nil rfl)))))
      (ss_cons (s_if (t_not (t_val (e_isi .list T.n_isinstance T.n_list (by decide +kernel) (e_var 4)))) (ss_one (s_ret (e_bl))) (ss_nil))
      (ss_cons (s_for (own := [5, 6]) (passes_of rfl) rfl (i_enum T.n_enumerate (e_var 4)) (g_tup rfl (gs_cons (g_name (own := [5, 6]) 5 sc_is_shore.nd) (gs_cons (g_name (own := [5, 6]) 6 sc_is_shore.nd) (gs_nil)))) (ss_one (s_if (t_w (t_or (t_not (t_val (e_callG C_is_integer hr hq (by decide) tk (a_cons (e_var 6) (a_nil)) (hn := as_cons (as_nil rfl))))) (t_or (t_not (t_chain o_le o_lt (e_int) (e_var 6) (e_var 0))) (t_or1 (t_w (t_and (t_cmp o_gt (e_var 5) (e_int)) (t_and1 (t_cmp o_ge (e_idx (e_var 4) (e_op o_sub (e_var 5) (e_int))) (e_var 6))))))))) (ss_one (s_ret (e_bl))) (ss_nil))))
      (ss_cons (s_if (t_w (t_or (t_cmp (o_notIn hr) (e_var 2) (e_var 4)) (t_or1 (t_cmp (o_in hr) (e_var 3) (e_var 4))))) (ss_one (s_ret (e_bl))) (ss_nil))
      (ss_one (s_ret (e_not (e_b1 (c_any rfl) T.n_any (by decide +kernel) (e_lc [("low", 7), ("high", 8), ("_", 9)] rfl sc_is_shore.nd (i_any (e_var 1)) (blkOk_by (own := [("low", 7), ("high", 8), ("_", 9)]) (N := N_is_shore) (sc := defScope s_is_shore) (by decide +kernel)) (fun _ _ _ _ _ => g_tup rfl (gs_cons (g_name (own := [7, 8, 9]) 7 sc_is_shore.nd) (gs_cons (g_name (own := [7, 8, 9]) 8 sc_is_shore.nd) (gs_cons (g_name (own := [7, 8, 9]) 9 sc_is_shore.nd) (gs_nil))))) (fun _ _ _ _ _ => cs_nil) (fun _ _ _ _ _ => e_and (e_cmp (o_in hr) (e_var 7) (e_var 4)) (e_one (e_cmp (o_notIn hr) (e_var 8) (e_var 4))))))))))))
theorem sc__law_numbers : FnScope N__law_numbers P__law_numbers (defScope s__law_numbers) := ⟨rfl, rfl, rfl, by decide +kernel, rfl, by decide +kernel, by decide +kernel⟩
theorem ok__law_numbers {a : Addr} {fd : FuncData} (T : Txt P w K mg) (Fd : FnX K "_law_numbers" s__law_numbers a fd) (hm : mg "_law_numbers" = some (.ref a)) : CalG P w K mg base (L2.CX P w) 1 "_law_numbers" 2 f__law_numbers := by
  refine ⟨a, fd, P__law_numbers, PyGa.FnG.body Fd (CX := (L2.CX P w)) (k := 0) sc__law_numbers (sp_len rfl) fun cdv A outer s H vs Q E hr hq h => ⟨_, ?_, body_read (b := b__law_numbers) rfl h⟩, hm, Fd.kp, Fd.bindsN (fun _ _ _ _ _ _ us hl => match us, hl with | [_, _], _ => rfl)⟩
  exact tk_go (takes_of rfl rfl rfl rfl) fun tk => ss_cons (s_set 2 sc__law_numbers.nd (e_b1 (c_sum rfl) T.n_sum (by decide +kernel) (e_lc [("cell", 5)] rfl sc__law_numbers.nd (i_any (e_sl (e_var 0) oo_none (oo_some (e_int)))) (blkOk_by (own := [("cell", 5)]) (N := N__law_numbers) (sc := defScope s__law_numbers) (by decide +kernel)) (fun _ _ _ _ _ => g_name (own := [5]) 5 sc__law_numbers.nd) (fun _ _ _ _ _ => cs_nil) (fun _ _ _ _ _ => e_op o_mod (e_t1 (c_int) T.n_int (by decide +kernel) (e_var 5)) (e_int)))))
      (ss_cons (s_set 3 sc__law_numbers.nd (e_lst (a_nil)))
      (ss_cons (s_for (own := [4]) (passes_of rfl) rfl (i_range1 T.n_range (e_var 1)) (g_name (own := [4]) 4 sc__law_numbers.nd) (ss_cons (s_set 5 sc__law_numbers.nd (e_op o_add (e_var 2) (e_op o_mul (e_int) (e_var 4))))
      (ss_cons (s_if (t_cmp o_lt (e_var 4) (e_b1 (c_len) T.n_len (by decide +kernel) (e_var 0))) (ss_one (s_set 5 sc__law_numbers.nd (e_t1 (c_int) T.n_int (by decide +kernel) (e_idx (e_var 0) (e_var 4))))) (ss_nil))
      (ss_cons (s_set 6 sc__law_numbers.nd (e_op o_mod (e_t1 (c_int) T.n_int (by decide +kernel) (e_op o_add (e_op o_mul (e_var 5) (e_int)) (e_op o_mul (e_op o_add (e_var 4) (e_int)) (e_int)))) (e_op o_sub (e_op o_pow (e_int) (e_int)) (e_int))))
      (ss_cons (s_set 7 sc__law_numbers.nd (e_op o_mod (e_t1 (c_int) T.n_int (by decide +kernel) (e_op o_add (e_op o_add (e_op o_mul (e_var 6) (e_var 6)) (e_op o_mul (e_var 5) (e_int))) (e_var 4))) (e_op o_sub (e_op o_pow (e_int) (e_int)) (e_int))))
      (ss_one (s_if (t_cmp o_ge (e_var 5) (e_op o_pow (e_int) (e_int))) (ss_one (s_expr (e_app (e_var 3) (e_op o_sub (e_var 5) (e_op o_pow (e_int) (e_int)))))) (ss_one (s_expr (e_app (e_var 3) (e_op o_add (e_var 7) (e_op o_mul (e_var 6) (e_op o_sub (e_op o_pow (e_int) (e_int)) (e_int))))))))))))))
      (ss_one (s_ret (e_var 3)))))
theorem sc__law_digits : FnScope N__law_digits P__law_digits (defScope s__law_digits) := ⟨rfl, rfl, rfl, by decide +kernel, rfl, by decide +kernel, by decide +kernel⟩
theorem ok__law_digits {a : Addr} {fd : FuncData} (T : Txt P w K mg) (Fd : FnX K "_law_digits" s__law_digits a fd) (hm : mg "_law_digits" = some (.ref a)) : CalG P w K mg base (L2.CX P w) 1 "_law_digits" 2 f__law_digits := by
  refine ⟨a, fd, P__law_digits, PyGa.FnG.body Fd (CX := (L2.CX P w)) (k := 0) sc__law_digits (sp_len rfl) fun cdv A outer s H vs Q E hr hq h => ⟨_, ?_, body_read (b := b__law_digits) rfl h⟩, hm, Fd.kp, Fd.bindsN (fun _ _ _ _ _ _ us hl => match us, hl with | [_, _], _ => rfl)⟩
  exact tk_go (takes_of rfl rfl rfl rfl) fun tk => ss_cons (s_set 2 sc__law_digits.nd (e_lst (a_nil)))
      (ss_cons (s_for (own := [3]) (passes_of rfl) rfl (i_any (e_var 1)) (g_name (own := [3]) 3 sc__law_digits.nd) (ss_cons (s_expr (e_app (e_var 2) (e_op o_mod (e_t1 (c_int) T.n_int (by decide +kernel) (e_var 0)) (e_var 3))))
      (ss_one (s_set 0 sc__law_digits.nd (e_op o_fdiv (e_var 0) (e_var 3))))))
      (ss_one (s_ret (e_var 2))))
theorem sc__law_equal : FnScope N__law_equal P__law_equal (defScope s__law_equal) := ⟨rfl, rfl, rfl, by decide +kernel, rfl, by decide +kernel, by decide +kernel⟩
theorem ok__law_equal {a : Addr} {fd : FuncData} (T : Txt P w K mg) (Fd : FnX K "_law_equal" s__law_equal a fd) (hm : mg "_law_equal" = some (.ref a)) : CalG P w K mg base (L2.CX P w) 1 "_law_equal" 2 f__law_equal := by
  refine ⟨a, fd, P__law_equal, PyGa.FnG.body Fd (CX := (L2.CX P w)) (k := 0) sc__law_equal (sp_len rfl) fun cdv A outer s H vs Q E hr hq h => ⟨_, ?_, body_read (b := b__law_equal) rfl h⟩, hm, Fd.kp, Fd.bindsN (fun _ _ _ _ _ _ us hl => match us, hl with | [_, _], _ => rfl)⟩
  exact tk_go (takes_of rfl rfl rfl rfl) fun tk => ss_one (s_ret (e_and (e_cmp (o_eq hr) (e_var 0) (e_var 1)) (e_one (e_cmp (o_eq hr) (e_b1 (c_repr hr hq) T.n_repr (by decide +kernel) (e_var 0)) (e_b1 (c_repr hr hq) T.n_repr (by decide +kernel) (e_var 1))))))
theorem sc__law_whole : FnScope N__law_whole P__law_whole (defScope s__law_whole) := ⟨rfl, rfl, rfl, by decide +kernel, rfl, by decide +kernel, by decide +kernel⟩
theorem ok__law_whole {a : Addr} {fd : FuncData} (T : Txt P w K mg) (Fd : FnX K "_law_whole" s__law_whole a fd) (hm : mg "_law_whole" = some (.ref a)) : CalG P w K mg base (L2.CX P w) 1 "_law_whole" 1 f__law_whole := by
  refine ⟨a, fd, P__law_whole, PyGa.FnG.body Fd (CX := (L2.CX P w)) (k := 0) sc__law_whole (sp_len rfl) fun cdv A outer s H vs Q E hr hq h => ⟨_, ?_, body_read (b := b__law_whole) rfl h⟩, hm, Fd.kp, Fd.bindsN (fun _ _ _ _ _ _ us hl => match us, hl with | [_], _ => rfl)⟩
  exact tk_go (takes_of rfl rfl rfl rfl) fun tk => ss_one (s_ret (e_and (e_isi .int T.n_isinstance T.n_int (by decide +kernel) (e_var 0)) (e_one (e_not (e_isi .bool T.n_isinstance T.n_bool (by decide +kernel) (e_var 0))))))
theorem sc__law_values : FnScope N__law_values P__law_values (defScope s__law_values) := ⟨rfl, rfl, rfl, by decide +kernel, rfl, by decide +kernel, by decide +kernel⟩
theorem ok__law_values {a : Addr} {fd : FuncData} (T : Txt P w K mg) (Fd : FnX K "_law_values" s__law_values a fd) (hm : mg "_law_values" = some (.ref a)) (C__law_digits : CalG P w K mg base (L2.CX P w) 1 "_law_digits" 2 f__law_digits) : CalG P w K mg base (L2.CX P w) 2 "_law_values" 2 f__law_values := by
  refine ⟨a, fd, P__law_values, PyGa.FnG.body Fd (CX := (L2.CX P w)) (k := 1) sc__law_values (sp_len rfl) fun cdv A outer s H vs Q E hr hq h => ⟨_, ?_, body_read (b := b__law_values) rfl h⟩, hm, Fd.kp, Fd.bindsN (fun _ _ _ _ _ _ us hl => match us, hl with | [_, _], _ => rfl)⟩
  exact tk_go (takes_of rfl rfl rfl rfl) fun tk => ss_cons (s_set 2 sc__law_values.nd (e_callG C__law_digits hr hq (by decide) tk (a_cons (e_idx (e_var 0) (e_int)) (a_cons (e_lst (a_cons (e_int) (a_cons (e_int) (a_cons (e_int) (a_cons (e_int) (a_cons (e_int) (a_cons (e_int) (a_cons (e_int) (a_cons (e_int) (a_cons (e_int) (a_cons (e_int) (a_nil)))))))))))) (a_nil))) (hn := as_cons (as_cons (as_nil rfl)))))
      (ss_cons (s_set 2 sc__law_values.nd (e_op o_add (e_var 2) (e_callG C__law_digits hr hq (by decide) tk (a_cons (e_idx (e_var 0) (e_int)) (a_cons (e_lst (a_cons (e_int) (a_cons (e_int) (a_cons (e_int) (a_cons (e_int) (a_cons (e_int) (a_cons (e_int) (a_cons (e_int) (a_cons (e_int) (a_cons (e_int) (a_cons (e_op o_pow (e_int) (e_int)) (a_nil)))))))))))) (a_nil))) (hn := as_cons (as_cons (as_nil rfl))))))
      (ss_one (s_ret (e_sl (e_var 2) oo_none (oo_some (e_var 1))))))
theorem sc__law_bonds : FnScope N__law_bonds P__law_bonds (defScope s__law_bonds) := ⟨rfl, rfl, rfl, by decide +kernel, rfl, by decide +kernel, by decide +kernel⟩
theorem ok__law_bonds {a : Addr} {fd : FuncData} (T : Txt P w K mg) (Fd : FnX K "_law_bonds" s__law_bonds a fd) (hm : mg "_law_bonds" = some (.ref a)) (C__law_digits : CalG P w K mg base (L2.CX P w) 1 "_law_digits" 2 f__law_digits) (C__law_values : CalG P w K mg base (L2.CX P w) 2 "_law_values" 2 f__law_values) : CalG P w K mg base (L2.CX P w) 3 "_law_bonds" 4 f__law_bonds := by
  refine ⟨a, fd, P__law_bonds, PyGa.FnG.body Fd (CX := (L2.CX P w)) (k := 2) sc__law_bonds (sp_len rfl) fun cdv A outer s H vs Q E hr hq h => ⟨_, ?_, body_read (b := b__law_bonds) rfl h⟩, hm, Fd.kp, Fd.bindsN (fun _ _ _ _ _ _ us hl => match us, hl with | [_, _, _, _], _ => rfl)⟩
  exact tk_go (takes_of rfl rfl rfl rfl) fun tk => ss_cons (s_set 4 sc__law_bonds.nd (e_callG C__law_values hr hq (by decide) tk (a_cons (e_var 0) (a_cons (e_var 1) (a_nil))) (hn := as_cons (as_cons (as_nil rfl)))))
      (ss_cons (s_set 5 sc__law_bonds.nd (e_lst (a_nil)))
      (ss_cons (s_for (own := [6]) (passes_of rfl) rfl (i_range1 T.n_range (e_var 2)) (g_name (own := [6]) 6 sc__law_bonds.nd) (ss_cons (s_set 7 sc__law_bonds.nd (e_op o_add (e_op o_fdiv (e_idx (e_var 0) (e_op o_add (e_int) (e_op o_mod (e_var 6) (e_int)))) (e_op o_add (e_int) (e_op o_fdiv (e_var 6) (e_int)))) (e_op o_mul (e_op o_fdiv (e_var 6) (e_int)) (e_int))))
      (ss_cons (s_set 8 sc__law_bonds.nd (e_callG C__law_digits hr hq (by decide) tk (a_cons (e_var 7) (a_cons (e_lst (a_cons (e_var 1) (a_cons (e_var 1) (a_cons (e_int) (a_cons (e_int) (a_cons (e_op o_pow (e_int) (e_int)) (a_nil))))))) (a_nil))) (hn := as_cons (as_cons (as_nil rfl)))))
      (ss_cons (s_par2 9 10 rfl sc__law_bonds.nd (a_cons (e_idx (e_var 8) (e_int)) (a_cons (e_idx (e_var 8) (e_int)) (a_nil))))
      (ss_cons (s_if (t_cmp o_lt (e_var 3) (e_int)) (ss_one (s_set 11 sc__law_bonds.nd (e_op o_add (e_op o_sub (e_idx (e_var 4) (e_var 10)) (e_idx (e_var 4) (e_var 9))) (e_idx (e_lst (a_cons (e_int) (a_cons (e_int) (a_cons (e_idx (e_var 8) (e_int)) (a_cons (e_int) (a_nil)))))) (e_idx (e_var 8) (e_int)))))) (ss_one (s_if (t_cmp o_lt (e_var 3) (e_int)) (ss_one (s_set 11 sc__law_bonds.nd (e_op o_sub (e_idx (e_var 8) (e_int)) (e_int)))) (ss_one (s_set 11 sc__law_bonds.nd (e_op o_sub (e_idx (e_var 8) (e_int)) (e_idx (e_lst (a_cons (e_op o_pow (e_int) (e_int)) (a_cons (e_int) (a_cons (e_int) (a_cons (e_op o_pow (e_int) (e_int)) (a_nil)))))) (e_idx (e_var 8) (e_int)))))))))
      (ss_one (s_expr (e_app (e_var 5) (e_tup (a_cons (e_var 9) (a_cons (e_var 10) (a_cons (e_var 11) (a_nil)))))))))))))
      (ss_one (s_ret (e_var 5)))))
theorem sc__law_kept : FnScope N__law_kept P__law_kept (defScope s__law_kept) := ⟨rfl, rfl, rfl, by decide +kernel, rfl, by decide +kernel, by decide +kernel⟩
theorem ok__law_kept {a : Addr} {fd : FuncData} (T : Txt P w K mg) (Fd : FnX K "_law_kept" s__law_kept a fd) (hm : mg "_law_kept" = some (.ref a)) (C__law_whole : CalG P w K mg base (L2.CX P w) 1 "_law_whole" 1 f__law_whole) : CalG P w K mg base (L2.CX P w) 2 "_law_kept" 3 f__law_kept := by
  refine ⟨a, fd, P__law_kept, PyGa.FnG.body Fd (CX := (L2.CX P w)) (k := 1) sc__law_kept (sp_len rfl) fun cdv A outer s H vs Q E hr hq h => ⟨_, ?_, body_read (b := b__law_kept) rfl h⟩, hm, Fd.kp, Fd.bindsN (fun _ _ _ _ _ _ us hl => match us, hl with | [_, _, _], _ => rfl)⟩
  exact tk_go (takes_of rfl rfl rfl rfl) fun tk => ss_cons (s_if (t_w (t_or (t_not (t_val (e_isi .tuple T.n_isinstance T.n_tuple (by decide +kernel) (e_var 2)))) (t_or (t_cmp (o_ne hr) (e_b1 (c_len) T.n_len (by decide +kernel) (e_var 2)) (e_var 0)) (t_or1 (t_not (t_val (e_b1 (c_all rfl) T.n_all (by decide +kernel) (e_lc [("number", 3)] rfl sc__law_kept.nd (i_any (e_var 2)) (blkOk_by (own := [("number", 3)]) (N := N__law_kept) (sc := defScope s__law_kept) (by decide +kernel)) (fun _ _ _ _ _ => g_name (own := [3]) 3 sc__law_kept.nd) (fun _ _ _ _ _ => cs_nil) (fun _ _ _ _ _ => e_callG C__law_whole hr hq (by decide) takes0 (a_cons (e_var 3) (a_nil)) (hn := as_cons (as_nil rfl))))))))))) (ss_one (s_ret (e_bl))) (ss_nil))
      (ss_one (s_ret (e_b1 (c_all rfl) T.n_all (by decide +kernel) (e_lc [("low", 4), ("high", 5), ("apart", 6)] rfl sc__law_kept.nd (i_any (e_var 1)) (blkOk_by (own := [("low", 4), ("high", 5), ("apart", 6)]) (N := N__law_kept) (sc := defScope s__law_kept) (by decide +kernel)) (fun _ _ _ _ _ => g_tup rfl (gs_cons (g_name (own := [4, 5, 6]) 4 sc__law_kept.nd) (gs_cons (g_name (own := [4, 5, 6]) 5 sc__law_kept.nd) (gs_cons (g_name (own := [4, 5, 6]) 6 sc__law_kept.nd) (gs_nil))))) (fun _ _ _ _ _ => cs_nil) (fun _ _ _ _ _ => e_cmp o_le (e_idx (e_var 2) (e_var 5)) (e_op o_add (e_idx (e_var 2) (e_var 4)) (e_var 6)))))))
theorem sc__law_is_greatest : FnScope N__law_is_greatest P__law_is_greatest (defScope s__law_is_greatest) := ⟨rfl, rfl, rfl, by decide +kernel, rfl, by decide +kernel, by decide +kernel⟩
theorem ok__law_is_greatest {a : Addr} {fd : FuncData} (T : Txt P w K mg) (Fd : FnX K "_law_is_greatest" s__law_is_greatest a fd) (hm : mg "_law_is_greatest" = some (.ref a)) : CalG P w K mg base (L2.CX P w) 1 "_law_is_greatest" 2 f__law_is_greatest := by
  refine ⟨a, fd, P__law_is_greatest, PyGa.FnG.body Fd (CX := (L2.CX P w)) (k := 0) sc__law_is_greatest (sp_len rfl) fun cdv A outer s H vs Q E hr hq h => ⟨_, ?_, body_read (b := b__law_is_greatest) rfl h⟩, hm, Fd.kp, Fd.bindsN (fun _ _ _ _ _ _ us hl => match us, hl with | [_, _], _ => rfl)⟩
  exact tk_go (takes_of rfl rfl rfl rfl) fun tk => ss_cons (s_setLc 2 [("number", 7)] rfl sc__law_is_greatest.nd (i_any (e_var 1)) (blkOk_by (own := [("number", 7)]) (N := N__law_is_greatest) (sc := defScope s__law_is_greatest) (by decide +kernel)) (fun _ _ _ _ _ => g_name (own := [7]) 7 sc__law_is_greatest.nd) (fun _ _ _ _ _ => cs_nil) (fun _ _ _ _ _ => e_cmp (o_eq hr) (e_var 7) (e_int)))
      (ss_cons (s_for (own := [3]) (passes_of rfl) rfl (i_range1 T.n_range (e_b1 (c_len) T.n_len (by decide +kernel) (e_var 1))) (g_name (own := [3]) 3 sc__law_is_greatest.nd) (ss_one (s_for (own := [4, 5, 6]) (passes_of rfl) rfl (i_any (e_var 0)) (g_tup rfl (gs_cons (g_name (own := [4, 5, 6]) 4 sc__law_is_greatest.nd) (gs_cons (g_name (own := [4, 5, 6]) 5 sc__law_is_greatest.nd) (gs_cons (g_name (own := [4, 5, 6]) 6 sc__law_is_greatest.nd) (gs_nil))))) (ss_one (s_if (t_w (t_and (t_tru (e_idx (e_var 2) (e_var 4))) (t_and1 (t_cmp (o_eq hr) (e_idx (e_var 1) (e_var 5)) (e_op o_add (e_idx (e_var 1) (e_var 4)) (e_var 6)))))) (ss_one (s_setI (e_bl) (e_var 2) (e_var 5) (gsub_i (e_var 2) (e_var 5)))) (ss_nil))))))
      (ss_one (s_ret (e_and (e_b1 (c_all rfl) T.n_all (by decide +kernel) (e_var 2)) (e_one (e_cmp o_le (e_b1 (c_maxL rfl) T.n_max (by decide +kernel) (e_var 1)) (e_int)))))))
theorem sc__law_is_wheel : FnScope N__law_is_wheel P__law_is_wheel (defScope s__law_is_wheel) := ⟨rfl, rfl, rfl, by decide +kernel, rfl, by decide +kernel, by decide +kernel⟩
theorem ok__law_is_wheel {a : Addr} {fd : FuncData} (T : Txt P w K mg) (Fd : FnX K "_law_is_wheel" s__law_is_wheel a fd) (hm : mg "_law_is_wheel" = some (.ref a)) (C__law_whole : CalG P w K mg base (L2.CX P w) 1 "_law_whole" 1 f__law_whole) : CalG P w K mg base (L2.CX P w) 2 "_law_is_wheel" 2 f__law_is_wheel := by
  refine ⟨a, fd, P__law_is_wheel, PyGa.FnG.body Fd (CX := (L2.CX P w)) (k := 1) sc__law_is_wheel (sp_len rfl) fun cdv A outer s H vs Q E hr hq h => ⟨_, ?_, body_read (b := b__law_is_wheel) rfl h⟩, hm, Fd.kp, Fd.bindsN (fun _ _ _ _ _ _ us hl => match us, hl with | [_, _], _ => rfl)⟩
  exact tk_go (takes_of rfl rfl rfl rfl) fun tk => ss_cons (s_if (t_w (t_or (t_not (t_val (e_isi .list T.n_isinstance T.n_list (by decide +kernel) (e_var 1)))) (t_or1 (t_not (t_tru (e_var 1)))))) (ss_one (s_ret (e_bl))) (ss_nil))
      (ss_cons (s_for (own := [2]) (passes_of rfl) rfl (i_any (e_var 1)) (g_name (own := [2]) 2 sc__law_is_wheel.nd) (ss_one (s_if (t_w (t_or (t_not (t_val (e_callG C__law_whole hr hq (by decide) tk (a_cons (e_var 2) (a_nil)) (hn := as_cons (as_nil rfl))))) (t_or1 (t_not (t_chain o_le o_lt (e_int) (e_var 2) (e_b1 (c_len) T.n_len (by decide +kernel) (e_var 0))))))) (ss_one (s_ret (e_bl))) (ss_nil))))
      (ss_cons (s_for (own := [3]) (passes_of rfl) rfl (i_range1 T.n_range (e_b1 (c_len) T.n_len (by decide +kernel) (e_var 1))) (g_name (own := [3]) 3 sc__law_is_wheel.nd) (ss_one (s_if (t_cmp (o_ne hr) (e_idx (e_idx (e_var 0) (e_idx (e_var 1) (e_op o_sub (e_var 3) (e_int)))) (e_int)) (e_idx (e_idx (e_var 0) (e_idx (e_var 1) (e_var 3))) (e_int))) (ss_one (s_ret (e_bl))) (ss_nil))))
      (ss_one (s_ret (e_cmp o_lt (e_b1 (c_sum rfl) T.n_sum (by decide +kernel) (e_lc [("spot", 2)] rfl sc__law_is_wheel.nd (i_any (e_var 1)) (blkOk_by (own := [("spot", 2)]) (N := N__law_is_wheel) (sc := defScope s__law_is_wheel) (by decide +kernel)) (fun _ _ _ _ _ => g_name (own := [2]) 2 sc__law_is_wheel.nd) (fun _ _ _ _ _ => cs_nil) (fun _ _ _ _ _ => e_idx (e_idx (e_var 0) (e_var 2)) (e_int)))) (e_int))))))
theorem sc__law_ask_values : FnScope N__law_ask_values P__law_ask_values (defScope s__law_ask_values) := ⟨rfl, rfl, rfl, by decide +kernel, rfl, by decide +kernel, by decide +kernel⟩
theorem ok__law_ask_values {a : Addr} {fd : FuncData} (T : Txt P w K mg) (Fd : FnX K "_law_ask_values" s__law_ask_values a fd) (hm : mg "_law_ask_values" = some (.ref a)) (C_is_values : CalG P w K mg base (L2.CX P w) 4 "is_values" 3 f_is_values) (C__law_equal : CalG P w K mg base (L2.CX P w) 1 "_law_equal" 2 f__law_equal) (C__law_kept : CalG P w K mg base (L2.CX P w) 2 "_law_kept" 3 f__law_kept) : CalG P w K mg base (L2.CX P w) 5 "_law_ask_values" 3 f__law_ask_values := by
  refine ⟨a, fd, P__law_ask_values, PyGa.FnG.body Fd (CX := (L2.CX P w)) (k := 4) sc__law_ask_values (sp_len rfl) fun cdv A outer s H vs Q E hr hq h => ⟨_, ?_, body_read (b := b__law_ask_values) rfl h⟩, hm, Fd.kp, Fd.bindsN (fun _ _ _ _ _ _ us hl => match us, hl with | [_, _, _], _ => rfl)⟩
  exact tk_go (takes_of rfl rfl rfl rfl) fun tk => ss_cons (s_for (own := [3]) (passes_of rfl) rfl (i_any (e_var 2)) (g_name (own := [3]) 3 sc__law_ask_values.nd) (ss_one (s_if (t_not (t_val (e_callG C__law_equal hr hq (by decide) tk (a_cons (e_callG C_is_values hr hq (by decide) tk (a_cons (e_var 0) (a_cons (e_t1 (c_list) T.n_list (by decide +kernel) (e_var 1)) (a_cons (e_var 3) (a_nil)))) (hn := as_cons (as_cons (as_cons (as_nil rfl))))) (a_cons (e_callG C__law_kept hr hq (by decide) tk (a_cons (e_var 0) (a_cons (e_var 1) (a_cons (e_var 3) (a_nil)))) (hn := as_cons (as_cons (as_cons (as_nil rfl))))) (a_nil))) (hn := as_cons (as_cons (as_nil rfl)))))) (ss_one (s_ret (e_bl))) (ss_nil))))
      (ss_one (s_ret (e_bl)))
theorem sc__law_ask_wheels : FnScope N__law_ask_wheels P__law_ask_wheels (defScope s__law_ask_wheels) := ⟨rfl, rfl, rfl, by decide +kernel, rfl, by decide +kernel, by decide +kernel⟩
theorem ok__law_ask_wheels {a : Addr} {fd : FuncData} (T : Txt P w K mg) (Fd : FnX K "_law_ask_wheels" s__law_ask_wheels a fd) (hm : mg "_law_ask_wheels" = some (.ref a)) (C_is_bond_ring : CalG P w K mg base (L2.CX P w) 4 "is_bond_ring" 3 f_is_bond_ring) (C__law_equal : CalG P w K mg base (L2.CX P w) 1 "_law_equal" 2 f__law_equal) (C__law_is_wheel : CalG P w K mg base (L2.CX P w) 2 "_law_is_wheel" 2 f__law_is_wheel) : CalG P w K mg base (L2.CX P w) 5 "_law_ask_wheels" 3 f__law_ask_wheels := by
  refine ⟨a, fd, P__law_ask_wheels, PyGa.FnG.body Fd (CX := (L2.CX P w)) (k := 4) sc__law_ask_wheels (sp_len rfl) fun cdv A outer s H vs Q E hr hq h => ⟨_, ?_, body_read (b := b__law_ask_wheels) rfl h⟩, hm, Fd.kp, Fd.bindsN (fun _ _ _ _ _ _ us hl => match us, hl with | [_, _, _], _ => rfl)⟩
  exact tk_go (takes_of rfl rfl rfl rfl) fun tk => ss_cons (s_for (own := [3]) (passes_of rfl) rfl (i_any (e_var 2)) (g_name (own := [3]) 3 sc__law_ask_wheels.nd) (ss_cons (s_set 4 sc__law_ask_wheels.nd (e_var 3))
      (ss_cons (s_if (t_val (e_isi .list T.n_isinstance T.n_list (by decide +kernel) (e_var 3))) (ss_one (s_set 4 sc__law_ask_wheels.nd (e_t1 (c_list) T.n_list (by decide +kernel) (e_var 3)))) (ss_nil))
      (ss_cons (s_set 5 sc__law_ask_wheels.nd (e_callG C__law_is_wheel hr hq (by decide) tk (a_cons (e_var 1) (a_cons (e_var 3) (a_nil))) (hn := as_cons (as_cons (as_nil rfl)))))
      (ss_one (s_if (t_w (t_or (t_not (t_val (e_callG C__law_equal hr hq (by decide) tk (a_cons (e_callG C_is_bond_ring hr hq (by decide) tk (a_cons (e_var 0) (a_cons (e_t1 (c_list) T.n_list (by decide +kernel) (e_var 1)) (a_cons (e_var 4) (a_nil)))) (hn := as_cons (as_cons (as_cons (as_nil rfl))))) (a_cons (e_var 5) (a_nil))) (hn := as_cons (as_cons (as_nil rfl)))))) (t_or1 (t_cmp (o_ne hr) (e_var 4) (e_var 3))))) (ss_one (s_ret (e_bl))) (ss_nil)))))))
      (ss_one (s_ret (e_bl)))
theorem sc__law_value_papers : FnScope N__law_value_papers P__law_value_papers (defScope s__law_value_papers) := ⟨rfl, rfl, rfl, by decide +kernel, rfl, by decide +kernel, by decide +kernel⟩
theorem ok__law_value_papers {a : Addr} {fd : FuncData} (T : Txt P w K mg) (Fd : FnX K "_law_value_papers" s__law_value_papers a fd) (hm : mg "_law_value_papers" = some (.ref a)) : CalG P w K mg base (L2.CX P w) 1 "_law_value_papers" 2 f__law_value_papers := by
  refine ⟨a, fd, P__law_value_papers, PyGa.FnG.body Fd (CX := (L2.CX P w)) (k := 0) sc__law_value_papers (sp_len rfl) fun cdv A outer s H vs Q E hr hq h => ⟨_, ?_, body_read (b := b__law_value_papers) rfl h⟩, hm, Fd.kp, Fd.bindsN (fun _ _ _ _ _ _ us hl => match us, hl with | [_, _], _ => rfl)⟩
  exact tk_go (takes_of rfl rfl rfl rfl) fun tk => ss_cons (s_set 2 sc__law_value_papers.nd (e_op o_mod (e_t1 (c_int) T.n_int (by decide +kernel) (e_var 1)) (e_b1 (c_len) T.n_len (by decide +kernel) (e_var 0))))
      (ss_cons (s_par2 3 4 rfl sc__law_value_papers.nd (a_cons (e_sl (e_var 0) oo_none (oo_some (e_var 2))) (a_cons (e_sl (e_var 0) (oo_some (e_op o_add (e_var 2) (e_int))) oo_none) (a_nil))))
      (ss_cons (s_set 5 sc__law_value_papers.nd (e_lst (a_cons (e_var 0) (a_cons (e_t1 (c_tuple) T.n_tuple (by decide +kernel) (e_lc [("one", 6)] rfl sc__law_value_papers.nd (i_any (e_var 0)) (blkOk_by (own := [("one", 6)]) (N := N__law_value_papers) (sc := defScope s__law_value_papers) (by decide +kernel)) (fun _ _ _ _ _ => g_name (own := [6]) 6 sc__law_value_papers.nd) (fun _ _ _ _ _ => cs_nil) (fun _ _ _ _ _ => e_op o_add (e_var 6) (e_int)))) (a_cons (e_t1 (c_tuple) T.n_tuple (by decide +kernel) (e_lc [("one", 6)] rfl sc__law_value_papers.nd (i_any (e_var 0)) (blkOk_by (own := [("one", 6)]) (N := N__law_value_papers) (sc := defScope s__law_value_papers) (by decide +kernel)) (fun _ _ _ _ _ => g_name (own := [6]) 6 sc__law_value_papers.nd) (fun _ _ _ _ _ => cs_nil) (fun _ _ _ _ _ => e_op o_sub (e_var 6) (e_op o_pow (e_int) (e_int))))) (a_nil))))))
      (ss_cons (s_set 5 sc__law_value_papers.nd (e_op o_add (e_var 5) (e_lst (a_cons (e_op o_add (e_op o_add (e_var 3) (e_tup (a_cons (e_op o_add (e_idx (e_var 0) (e_var 2)) (e_int)) (a_nil)))) (e_var 4)) (a_cons (e_op o_add (e_op o_add (e_var 3) (e_tup (a_cons (e_op o_sub (e_idx (e_var 0) (e_var 2)) (e_int)) (a_nil)))) (e_var 4)) (a_cons (e_t1 (c_list) T.n_list (by decide +kernel) (e_var 0)) (a_nil)))))))
      (ss_cons (s_set 5 sc__law_value_papers.nd (e_op o_add (e_var 5) (e_lst (a_cons (e_op o_add (e_var 0) (e_tup (a_cons (e_int) (a_nil)))) (a_cons (e_op o_add (e_var 3) (e_var 4)) (a_cons (e_op o_add (e_op o_add (e_var 3) (e_tup (a_cons (e_non) (a_nil)))) (e_var 4)) (a_cons (e_op o_add (e_op o_add (e_var 3) (e_tup (a_cons (e_bl) (a_nil)))) (e_var 4)) (a_nil))))))))
      (ss_one (s_ret (e_op o_add (e_var 5) (e_lst (a_cons (e_op o_add (e_op o_add (e_var 3) (e_tup (a_cons (e_t1 (c_strI) T.n_str (by decide +kernel) (e_var 2)) (a_nil)))) (e_var 4)) (a_cons (e_non) (a_cons (e_int) (a_cons (e_tup (a_nil)) (a_cons (e_str (by decide +kernel)) (a_cons (e_op o_add (e_op o_add (e_var 3) (e_tup (a_cons (e_bl) (a_nil)))) (e_var 4)) (a_nil)))))))))))))))
theorem sc__law_wheel_papers : FnScope N__law_wheel_papers P__law_wheel_papers (defScope s__law_wheel_papers) := ⟨rfl, rfl, rfl, by decide +kernel, rfl, by decide +kernel, by decide +kernel⟩
theorem ok__law_wheel_papers {a : Addr} {fd : FuncData} (T : Txt P w K mg) (Fd : FnX K "_law_wheel_papers" s__law_wheel_papers a fd) (hm : mg "_law_wheel_papers" = some (.ref a)) : CalG P w K mg base (L2.CX P w) 1 "_law_wheel_papers" 3 f__law_wheel_papers := by
  refine ⟨a, fd, P__law_wheel_papers, PyGa.FnG.body Fd (CX := (L2.CX P w)) (k := 0) sc__law_wheel_papers (sp_len rfl) fun cdv A outer s H vs Q E hr hq h => ⟨_, ?_, body_read (b := b__law_wheel_papers) rfl h⟩, hm, Fd.kp, Fd.bindsN (fun _ _ _ _ _ _ us hl => match us, hl with | [_, _, _], _ => rfl)⟩
  exact tk_go (takes_of rfl rfl rfl rfl) fun tk => ss_cons (s_set 3 sc__law_wheel_papers.nd (e_op o_mod (e_t1 (c_int) T.n_int (by decide +kernel) (e_var 2)) (e_b1 (c_len) T.n_len (by decide +kernel) (e_var 0))))
      (ss_cons (s_set 4 sc__law_wheel_papers.nd (e_lst (a_cons (e_var 0) (a_cons (e_op o_add (e_sl (e_var 0) (oo_some (e_var 3)) oo_none) (e_sl (e_var 0) oo_none (oo_some (e_var 3)))) (a_cons (e_op o_add (e_var 0) (e_var 0)) (a_cons (e_sl (e_var 0) (oo_some (e_int)) oo_none) (a_cons (e_op o_add (e_sl (e_var 0) oo_none (oo_some (e_var 3))) (e_sl (e_var 0) (oo_some (e_op o_add (e_var 3) (e_int))) oo_none)) (a_nil))))))))
      (ss_cons (s_set 4 sc__law_wheel_papers.nd (e_op o_add (e_var 4) (e_lst (a_cons (e_revL (e_var 0)) (a_cons (e_op o_add (e_var 0) (e_lst (a_cons (e_var 1) (a_nil)))) (a_cons (e_op o_add (e_var 0) (e_lst (a_cons (e_un o_neg (e_int)) (a_nil)))) (a_cons (e_op o_add (e_var 0) (e_lst (a_cons (e_non) (a_nil)))) (a_cons (e_op o_add (e_sl (e_var 0) oo_none (oo_some (e_var 3))) (e_lst (a_cons (e_t1 (c_strI) T.n_str (by decide +kernel) (e_var 3)) (a_nil)))) (a_nil)))))))))
      (ss_cons (s_set 4 sc__law_wheel_papers.nd (e_op o_add (e_var 4) (e_lst (a_cons (e_op o_add (e_op o_add (e_sl (e_var 0) oo_none (oo_some (e_var 3))) (e_lst (a_cons (e_op o_mod (e_t1 (c_int) T.n_int (by decide +kernel) (e_op o_fdiv (e_var 2) (e_int))) (e_op o_add (e_var 1) (e_int))) (a_nil)))) (e_sl (e_var 0) (oo_some (e_op o_add (e_var 3) (e_int))) oo_none)) (a_cons (e_t1 (c_tuple) T.n_tuple (by decide +kernel) (e_var 0)) (a_cons (e_lst (a_nil)) (a_cons (e_non) (a_cons (e_int) (a_nil)))))))))
      (ss_one (s_ret (e_op o_add (e_var 4) (e_lst (a_cons (e_lc [("one", 5)] rfl sc__law_wheel_papers.nd (i_any (e_var 0)) (blkOk_by (own := [("one", 5)]) (N := N__law_wheel_papers) (sc := defScope s__law_wheel_papers) (by decide +kernel)) (fun _ _ _ _ _ => g_name (own := [5]) 5 sc__law_wheel_papers.nd) (fun _ _ _ _ _ => cs_nil) (fun _ _ _ _ _ => e_if (t_cmp (o_in hr) (e_var 5) (e_tup (a_cons (e_int) (a_cons (e_int) (a_nil))))) (e_cmp (o_eq hr) (e_var 5) (e_int)) (e_var 5))) (a_cons (e_lst (a_cons (e_var 0) (a_nil))) (a_cons (e_lstRg rfl T.n_list T.n_range (e_var 1)) (a_cons (e_lst (a_cons (e_int) (a_nil))) (a_cons (e_str (by decide +kernel)) (a_nil)))))))))))))
theorem sc__law_refusal : FnScope N__law_refusal P__law_refusal (defScope s__law_refusal) := ⟨rfl, rfl, rfl, by decide +kernel, rfl, by decide +kernel, by decide +kernel⟩
theorem ok__law_refusal {a : Addr} {fd : FuncData} (T : Txt P w K mg) (Fd : FnX K "_law_refusal" s__law_refusal a fd) (hm : mg "_law_refusal" = some (.ref a)) (C_solve : CalG P w K mg base (L2.CX P w) 4 "solve" 2 f_solve) (C_most_apart : CalG P w K mg base (L2.CX P w) 4 "most_apart" 4 f_most_apart) (C_is_values : CalG P w K mg base (L2.CX P w) 4 "is_values" 3 f_is_values) (C_is_bond_ring : CalG P w K mg base (L2.CX P w) 4 "is_bond_ring" 3 f_is_bond_ring) (C_is_bond_path : CalG P w K mg base (L2.CX P w) 4 "is_bond_path" 5 f_is_bond_path) (C_is_shore : CalG P w K mg base (L2.CX P w) 4 "is_shore" 5 f_is_shore) : CalG P w K mg base (L2.CX P w) 5 "_law_refusal" 3 f__law_refusal := by
  refine ⟨a, fd, P__law_refusal, PyGa.FnG.body Fd (CX := (L2.CX P w)) (k := 4) sc__law_refusal (sp_len rfl) fun cdv A outer s H vs Q E hr hq h => ⟨_, ?_, body_read (b := b__law_refusal) rfl h⟩, hm, Fd.kp, Fd.bindsN (fun _ _ _ _ _ _ us hl => match us, hl with | [_, _, _], _ => rfl)⟩
  exact tk_go (takes_of rfl rfl rfl rfl) fun tk => ss_cons (s_set 3 sc__law_refusal.nd (e_lst (a_nil)))
      (ss_cons (s_tryAs (i := 4) rfl rfl sc__law_refusal.nd tk T.g_HearsayError T.exq_HearsayError (fun W' pn xe tk po => ss_one (s_if (t_cmp (o_eq hr) (e_var 0) (e_int)) (ss_one (s_expr (e_callG C_solve hr hq (by decide) tk (a_cons (e_var 1) (a_cons (e_var 2) (a_nil))) (hn := as_cons (as_cons (as_nil rfl)))))) (ss_one (s_if (t_cmp (o_eq hr) (e_var 0) (e_int)) (ss_one (s_expr (e_callG C_most_apart hr hq (by decide) tk (a_cons (e_var 1) (a_cons (e_var 2) (a_cons (e_int) (a_cons (e_int) (a_nil))))) (hn := as_cons (as_cons (as_cons (as_cons (as_nil rfl)))))))) (ss_one (s_if (t_cmp (o_eq hr) (e_var 0) (e_int)) (ss_one (s_expr (e_callG C_is_values hr hq (by decide) tk (a_cons (e_var 1) (a_cons (e_var 2) (a_cons (e_tup (a_cons (e_int) (a_nil))) (a_nil)))) (hn := as_cons (as_cons (as_cons (as_nil rfl))))))) (ss_one (s_if (t_cmp (o_eq hr) (e_var 0) (e_int)) (ss_one (s_expr (e_callG C_is_bond_ring hr hq (by decide) tk (a_cons (e_var 1) (a_cons (e_var 2) (a_cons (e_lst (a_cons (e_int) (a_nil))) (a_nil)))) (hn := as_cons (as_cons (as_cons (as_nil rfl))))))) (ss_one (s_if (t_cmp (o_eq hr) (e_var 0) (e_int)) (ss_one (s_expr (e_callG C_is_bond_path hr hq (by decide) tk (a_cons (e_var 1) (a_cons (e_var 2) (a_cons (e_int) (a_cons (e_int) (a_cons (e_lst (a_nil)) (a_nil)))))) (hn := as_cons (as_cons (as_cons (as_cons (as_cons (as_nil rfl))))))))) (ss_one (s_expr (e_callG C_is_shore hr hq (by decide) tk (a_cons (e_var 1) (a_cons (e_var 2) (a_cons (e_int) (a_cons (e_int) (a_cons (e_lst (a_cons (e_int) (a_nil))) (a_nil)))))) (hn := as_cons (as_cons (as_cons (as_cons (as_cons (as_nil rfl))))))))))))))))))) (fun e a oe cls d pn hz hfl he => ss_cons (s_if (t_val (e_isE he hz hfl T.n_isinstance T.g_BadBond T.isq_BadBond)) (ss_one (s_expr (e_app (e_var 3) (e_tup (a_cons (e_str (by decide +kernel)) (a_cons (e_fldE he hz hfl T.flq_place) (a_nil))))))) (ss_nil))
      (ss_cons (s_if (t_val (e_isE he hz hfl T.n_isinstance T.g_TooMany T.isq_TooMany)) (ss_one (s_expr (e_app (e_var 3) (e_tup (a_cons (e_str (by decide +kernel)) (a_cons (e_fldE he hz hfl T.flq_limit) (a_nil))))))) (ss_nil))
      (ss_one (s_if (t_val (e_isE he hz hfl T.n_isinstance T.g_Contradiction T.isq_Contradiction)) (ss_one (s_expr (e_app (e_var 3) (e_tup (a_cons (e_str (by decide +kernel)) (a_nil)))))) (ss_nil))))))
      (ss_one (s_ret (e_var 3))))
theorem sc__law_ask_refusals : FnScope N__law_ask_refusals P__law_ask_refusals (defScope s__law_ask_refusals) := ⟨rfl, rfl, rfl, by decide +kernel, rfl, by decide +kernel, by decide +kernel⟩
theorem ok__law_ask_refusals {a : Addr} {fd : FuncData} (T : Txt P w K mg) (Fd : FnX K "_law_ask_refusals" s__law_ask_refusals a fd) (hm : mg "_law_ask_refusals" = some (.ref a)) (C__law_digits : CalG P w K mg base (L2.CX P w) 1 "_law_digits" 2 f__law_digits) (C__law_equal : CalG P w K mg base (L2.CX P w) 1 "_law_equal" 2 f__law_equal) (C__law_refusal : CalG P w K mg base (L2.CX P w) 5 "_law_refusal" 3 f__law_refusal) : CalG P w K mg base (L2.CX P w) 6 "_law_ask_refusals" 3 f__law_ask_refusals := by
  refine ⟨a, fd, P__law_ask_refusals, PyGa.FnG.body Fd (CX := (L2.CX P w)) (k := 5) sc__law_ask_refusals (sp_len rfl) fun cdv A outer s H vs Q E hr hq h => ⟨_, ?_, body_read (b := b__law_ask_refusals) rfl h⟩, hm, Fd.kp, Fd.bindsN (fun _ _ _ _ _ _ us hl => match us, hl with | [_, _, _], _ => rfl)⟩
  exact tk_go (takes_of rfl rfl rfl rfl) fun tk => ss_cons (s_set 3 sc__law_ask_refusals.nd (e_callG C__law_digits hr hq (by decide) tk (a_cons (e_var 2) (a_cons (e_lst (a_cons (e_int) (a_cons (e_int) (a_cons (e_int) (a_nil))))) (a_nil))) (hn := as_cons (as_cons (as_nil rfl)))))
      (ss_cons (s_set 4 sc__law_ask_refusals.nd (e_idx (e_lst (a_cons (e_int) (a_cons (e_int) (a_cons (e_bl) (a_cons (e_non) (a_cons (e_str (by decide +kernel)) (a_cons (e_un o_neg (e_int)) (a_nil)))))))) (e_idx (e_var 3) (e_int))))
      (ss_cons (s_set 5 sc__law_ask_refusals.nd (e_lst (a_cons (e_non) (a_cons (e_int) (a_cons (e_tup (a_cons (e_int) (a_cons (e_int) (a_nil)))) (a_cons (e_tup (a_cons (e_int) (a_cons (e_int) (a_cons (e_int) (a_cons (e_int) (a_nil)))))) (a_cons (e_lst (a_cons (e_int) (a_cons (e_int) (a_cons (e_int) (a_nil))))) (a_cons (e_tup (a_cons (e_int) (a_cons (e_var 0) (a_cons (e_int) (a_nil))))) (a_cons (e_tup (a_cons (e_un o_neg (e_int)) (a_cons (e_int) (a_cons (e_int) (a_nil))))) (a_cons (e_tup (a_cons (e_int) (a_cons (e_int) (a_cons (e_non) (a_nil))))) (a_cons (e_tup (a_cons (e_bl) (a_cons (e_int) (a_cons (e_int) (a_nil))))) (a_nil))))))))))))
      (ss_cons (s_set 5 sc__law_ask_refusals.nd (e_op o_add (e_var 5) (e_lst (a_cons (e_tup (a_cons (e_int) (a_cons (e_int) (a_cons (e_bl) (a_nil))))) (a_cons (e_tup (a_cons (e_str (by decide +kernel)) (a_cons (e_int) (a_cons (e_int) (a_nil))))) (a_cons (e_tup (a_cons (e_int) (a_cons (e_op o_add (e_var 0) (e_int)) (a_cons (e_int) (a_nil))))) (a_nil)))))))
      (ss_cons (s_set 6 sc__law_ask_refusals.nd (e_op o_mod (e_idx (e_var 3) (e_int)) (e_op o_add (e_int) (e_b1 (c_len) T.n_len (by decide +kernel) (e_var 1)))))
      (ss_cons (s_set 7 sc__law_ask_refusals.nd (e_sl (e_op o_add (e_op o_add (e_op o_add (e_sl (e_var 1) oo_none (oo_some (e_var 6))) (e_lst (a_cons (e_idx (e_var 5) (e_idx (e_var 3) (e_int))) (a_nil)))) (e_sl (e_var 1) (oo_some (e_var 6)) oo_none)) (e_lst (a_cons (e_non) (a_nil)))) oo_none (oo_some (e_int))))
      (ss_cons (s_set 8 sc__law_ask_refusals.nd (e_sl (e_op o_add (e_var 7) (e_op o_mul (e_lst (a_cons (e_tup (a_cons (e_int) (a_cons (e_int) (a_cons (e_int) (a_nil))))) (a_nil))) (e_int))) oo_none (oo_some (e_int))))
      (ss_cons (s_for (own := [9]) (passes_of rfl) rfl (i_range1 T.n_range (e_int)) (g_name (own := [9]) 9 sc__law_ask_refusals.nd) (ss_cons (s_for (own := [10]) (passes_of rfl) rfl (i_any (e_tup (a_cons (e_t1 (c_list) T.n_list (by decide +kernel) (e_var 1)) (a_cons (e_t1 (c_list) T.n_list (by decide +kernel) (e_var 7)) (a_cons (e_t1 (c_list) T.n_list (by decide +kernel) (e_var 8)) (a_nil)))))) (g_name (own := [10]) 10 sc__law_ask_refusals.nd) (ss_one (s_if (t_not (t_val (e_callG C__law_equal hr hq (by decide) tk (a_cons (e_callG C__law_refusal hr hq (by decide) tk (a_cons (e_var 9) (a_cons (e_var 4) (a_cons (e_var 10) (a_nil)))) (hn := as_cons (as_cons (as_cons (as_nil rfl))))) (a_cons (e_lst (a_cons (e_tup (a_cons (e_str (by decide +kernel)) (a_cons (e_un o_neg (e_int)) (a_nil)))) (a_nil))) (a_nil))) (hn := as_cons (as_cons (as_nil rfl)))))) (ss_one (s_ret (e_bl))) (ss_nil))))
      (ss_cons (s_if (t_not (t_val (e_callG C__law_equal hr hq (by decide) tk (a_cons (e_callG C__law_refusal hr hq (by decide) tk (a_cons (e_var 9) (a_cons (e_var 0) (a_cons (e_t1 (c_list) T.n_list (by decide +kernel) (e_var 8)) (a_nil)))) (hn := as_cons (as_cons (as_cons (as_nil rfl))))) (a_cons (e_lst (a_cons (e_tup (a_cons (e_str (by decide +kernel)) (a_cons (e_int) (a_nil)))) (a_nil))) (a_nil))) (hn := as_cons (as_cons (as_nil rfl)))))) (ss_one (s_ret (e_bl))) (ss_nil))
      (ss_one (s_if (t_w (t_and (t_cmp o_lt (e_var 6) (e_int)) (t_and1 (t_not (t_val (e_callG C__law_equal hr hq (by decide) tk (a_cons (e_callG C__law_refusal hr hq (by decide) tk (a_cons (e_var 9) (a_cons (e_var 0) (a_cons (e_t1 (c_list) T.n_list (by decide +kernel) (e_var 7)) (a_nil)))) (hn := as_cons (as_cons (as_cons (as_nil rfl))))) (a_cons (e_lst (a_cons (e_tup (a_cons (e_str (by decide +kernel)) (a_cons (e_var 6) (a_nil)))) (a_nil))) (a_nil))) (hn := as_cons (as_cons (as_nil rfl))))))))) (ss_one (s_ret (e_bl))) (ss_nil))))))
      (ss_one (s_ret (e_bl))))))))))
theorem sc_law : FnScope N_law P_law (defScope s_law) := ⟨rfl, rfl, rfl, by decide +kernel, rfl, by decide +kernel, by decide +kernel⟩
theorem okF_law {a : Addr} {fd : FuncData} (T : Txt P w K mg) (Fd : FnX K "law" s_law a fd) (C_solve : CalG P w K mg base (L2.CX P w) 4 "solve" 2 f_solve) (C__law_numbers : CalG P w K mg base (L2.CX P w) 1 "_law_numbers" 2 f__law_numbers) (C__law_digits : CalG P w K mg base (L2.CX P w) 1 "_law_digits" 2 f__law_digits) (C__law_equal : CalG P w K mg base (L2.CX P w) 1 "_law_equal" 2 f__law_equal) (C__law_values : CalG P w K mg base (L2.CX P w) 2 "_law_values" 2 f__law_values) (C__law_bonds : CalG P w K mg base (L2.CX P w) 3 "_law_bonds" 4 f__law_bonds) (C__law_kept : CalG P w K mg base (L2.CX P w) 2 "_law_kept" 3 f__law_kept) (C__law_is_greatest : CalG P w K mg base (L2.CX P w) 1 "_law_is_greatest" 2 f__law_is_greatest) (C__law_is_wheel : CalG P w K mg base (L2.CX P w) 2 "_law_is_wheel" 2 f__law_is_wheel) (C__law_ask_values : CalG P w K mg base (L2.CX P w) 5 "_law_ask_values" 3 f__law_ask_values) (C__law_ask_wheels : CalG P w K mg base (L2.CX P w) 5 "_law_ask_wheels" 3 f__law_ask_wheels) (C__law_value_papers : CalG P w K mg base (L2.CX P w) 1 "_law_value_papers" 2 f__law_value_papers) (C__law_wheel_papers : CalG P w K mg base (L2.CX P w) 1 "_law_wheel_papers" 3 f__law_wheel_papers) (C__law_refusal : CalG P w K mg base (L2.CX P w) 5 "_law_refusal" 3 f__law_refusal) (C__law_ask_refusals : CalG P w K mg base (L2.CX P w) 6 "_law_ask_refusals" 3 f__law_ask_refusals) : PyGa.FnG P w K mg base (L2.CX P w) 7 a fd P_law (spF K mg 1 f_law) := by
  refine PyGa.FnG.body Fd (CX := (L2.CX P w)) (k := 6) sc_law (sp_len rfl) fun cdv A outer s H vs Q E hr hq h => ⟨_, ?_, body_read (b := b_law) rfl h⟩
  exact tk_go (takes_of rfl rfl rfl rfl) fun tk => ss_cons (s_set 1 sc_law.nd (e_callG C__law_numbers hr hq (by decide) tk (a_cons (e_var 0) (a_cons (e_int) (a_nil))) (hn := as_cons (as_cons (as_nil rfl)))))
      (ss_cons (s_set 2 sc_law.nd (e_op o_add (e_int) (e_op o_mod (e_t1 (c_int) T.n_int (by decide +kernel) (e_idx (e_var 1) (e_int))) (e_int))))
      (ss_cons (s_set 3 sc_law.nd (e_op o_mod (e_t1 (c_int) T.n_int (by decide +kernel) (e_idx (e_var 1) (e_int))) (e_int)))
      (ss_cons (s_if (t_cmp (o_eq hr) (e_op o_mod (e_t1 (c_int) T.n_int (by decide +kernel) (e_op o_fdiv (e_idx (e_var 1) (e_int)) (e_int))) (e_int)) (e_int)) (ss_one (s_set 3 sc_law.nd (e_op o_add (e_int) (e_op o_mod (e_var 3) (e_int))))) (ss_nil))
      (ss_cons (s_set 4 sc_law.nd (e_op o_mod (e_t1 (c_int) T.n_int (by decide +kernel) (e_idx (e_var 1) (e_int))) (e_int)))
      (ss_cons (s_set 5 sc_law.nd (e_callG C__law_bonds hr hq (by decide) tk (a_cons (e_var 1) (a_cons (e_var 2) (a_cons (e_b2 (c_min rfl) T.n_min (by decide +kernel) (e_var 3) (e_int)) (a_cons (e_var 4) (a_nil))))) (hn := as_cons (as_cons (as_cons (as_cons (as_nil rfl)))))))
      (ss_cons (s_if (t_cmp o_gt (e_var 3) (e_int)) (ss_one (s_ret (e_callG C__law_equal hr hq (by decide) tk (a_cons (e_callG C__law_refusal hr hq (by decide) tk (a_cons (e_op o_mod (e_t1 (c_int) T.n_int (by decide +kernel) (e_idx (e_var 1) (e_int))) (e_int)) (a_cons (e_var 2) (a_cons (e_op o_add (e_var 5) (e_lst (a_cons (e_tup (a_cons (e_int) (a_cons (e_int) (a_cons (e_int) (a_nil))))) (a_nil)))) (a_nil)))) (hn := as_cons (as_cons (as_cons (as_nil rfl))))) (a_cons (e_lst (a_cons (e_tup (a_cons (e_str (by decide +kernel)) (a_cons (e_int) (a_nil)))) (a_nil))) (a_nil))) (hn := as_cons (as_cons (as_nil rfl)))))) (ss_nil))
      (ss_cons (s_set 6 sc_law.nd (e_lst (a_nil)))
      (ss_cons (s_if (t_w (t_and (t_cmp (o_eq hr) (e_op o_mod (e_var 4) (e_int)) (e_int)) (t_and1 (t_cmp o_lt (e_var 3) (e_int))))) (ss_cons (s_unp (own := [7, 8]) rfl (e_callG C__law_digits hr hq (by decide) tk (a_cons (e_idx (e_var 1) (e_int)) (a_cons (e_lst (a_cons (e_var 2) (a_cons (e_var 2) (a_nil)))) (a_nil))) (hn := as_cons (as_cons (as_nil rfl)))) (gs_cons (g_name (own := [7, 8]) 7 sc_law.nd) (gs_cons (g_name (own := [7, 8]) 8 sc_law.nd) (gs_nil))))
      (ss_cons (s_set 9 sc_law.nd (e_op o_mod (e_t1 (c_int) T.n_int (by decide +kernel) (e_idx (e_var 1) (e_int))) (e_op o_pow (e_int) (e_int))))
      (ss_cons (s_set 5 sc_law.nd (e_op o_add (e_var 5) (e_lst (a_cons (e_tup (a_cons (e_var 7) (a_cons (e_var 8) (a_cons (e_var 9) (a_nil))))) (a_cons (e_tup (a_cons (e_var 8) (a_cons (e_var 7) (a_cons (e_op o_sub (e_un o_neg (e_var 9)) (e_int)) (a_nil))))) (a_nil))))))
      (ss_one (s_set 6 sc_law.nd (e_lst (a_cons (e_var 3) (a_cons (e_op o_add (e_var 3) (e_int)) (a_nil))))))))) (ss_nil))
      (ss_cons (s_set 10 sc_law.nd (e_t1 (c_list) T.n_list (by decide +kernel) (e_var 5)))
      (ss_cons (s_set 11 sc_law.nd (e_callG C_solve hr hq (by decide) tk (a_cons (e_var 2) (a_cons (e_var 10) (a_nil))) (hn := as_cons (as_cons (as_nil rfl)))))
      (ss_cons (s_if (t_w (t_or (t_cmp (o_ne hr) (e_var 10) (e_var 5)) (t_or (t_not (t_val (e_isi .tuple T.n_isinstance T.n_tuple (by decide +kernel) (e_var 11)))) (t_or1 (t_cmp (o_ne hr) (e_b1 (c_len) T.n_len (by decide +kernel) (e_var 11)) (e_int)))))) (ss_one (s_ret (e_bl))) (ss_nil))
      (ss_cons (s_set 12 sc_law.nd (e_op o_add (e_lst (a_cons (e_var 6) (a_cons (e_lst (a_nil)) (a_cons (e_non) (a_cons (e_lst (a_cons (e_int) (a_nil))) (a_cons (e_lstRg rfl T.n_list T.n_range (e_b1 (c_len) T.n_len (by decide +kernel) (e_var 5))) (a_nil))))))) (e_sl (e_lc [("k", 14)] rfl sc_law.nd (i_range1 T.n_range (e_b1 (c_len) T.n_len (by decide +kernel) (e_var 5))) (blkOk_by (own := [("k", 14)]) (N := N_law) (sc := defScope s_law) (by decide +kernel)) (fun _ _ _ _ _ => g_name (own := [14]) 14 sc_law.nd) (fun _ _ _ _ _ => cs_nil) (fun _ _ _ _ _ => e_lst (a_cons (e_var 14) (a_nil)))) oo_none (oo_some (e_int)))))
      (ss_cons (s_if (t_cmp (o_eq hr) (e_idx (e_var 11) (e_int)) (e_str (by decide +kernel))) (ss_cons (s_if (t_w (t_or (t_not (t_val (e_callG C__law_kept hr hq (by decide) tk (a_cons (e_var 2) (a_cons (e_var 5) (a_cons (e_idx (e_var 11) (e_int)) (a_nil)))) (hn := as_cons (as_cons (as_cons (as_nil rfl))))))) (t_or (t_not (t_val (e_callG C__law_is_greatest hr hq (by decide) tk (a_cons (e_var 5) (a_cons (e_idx (e_var 11) (e_int)) (a_nil))) (hn := as_cons (as_cons (as_nil rfl)))))) (t_or1 (t_tru (e_var 6)))))) (ss_one (s_ret (e_bl))) (ss_nil))
      (ss_cons (s_if (t_not (t_val (e_callG C__law_ask_values hr hq (by decide) tk (a_cons (e_var 2) (a_cons (e_var 5) (a_cons (e_callG C__law_value_papers hr hq (by decide) tk (a_cons (e_idx (e_var 11) (e_int)) (a_cons (e_idx (e_var 1) (e_int)) (a_nil))) (hn := as_cons (as_cons (as_nil rfl)))) (a_nil)))) (hn := as_cons (as_cons (as_cons (as_nil rfl))))))) (ss_one (s_ret (e_bl))) (ss_nil))
      (ss_one (s_if (t_not (t_val (e_callG C__law_ask_wheels hr hq (by decide) tk (a_cons (e_var 2) (a_cons (e_var 5) (a_cons (e_var 12) (a_nil)))) (hn := as_cons (as_cons (as_cons (as_nil rfl))))))) (ss_one (s_ret (e_bl))) (ss_nil))))) (ss_cons (s_if (t_w (t_or (t_cmp (o_ne hr) (e_idx (e_var 11) (e_int)) (e_str (by decide +kernel))) (t_or (t_not (t_val (e_callG C__law_is_wheel hr hq (by decide) tk (a_cons (e_var 5) (a_cons (e_idx (e_var 11) (e_int)) (a_nil))) (hn := as_cons (as_cons (as_nil rfl)))))) (t_or1 (t_w (t_and (t_cmp o_lt (e_var 4) (e_int)) (t_and1 (t_not (t_tru (e_var 6)))))))))) (ss_one (s_ret (e_bl))) (ss_nil))
      (ss_cons (s_if (t_not (t_val (e_callG C__law_ask_wheels hr hq (by decide) tk (a_cons (e_var 2) (a_cons (e_var 5) (a_cons (e_op o_add (e_var 12) (e_callG C__law_wheel_papers hr hq (by decide) tk (a_cons (e_idx (e_var 11) (e_int)) (a_cons (e_b1 (c_len) T.n_len (by decide +kernel) (e_var 5)) (a_cons (e_idx (e_var 1) (e_int)) (a_nil)))) (hn := as_cons (as_cons (as_cons (as_nil rfl)))))) (a_nil)))) (hn := as_cons (as_cons (as_cons (as_nil rfl))))))) (ss_one (s_ret (e_bl))) (ss_nil))
      (ss_one (s_if (t_w (t_and (t_tru (e_var 6)) (t_and1 (t_not (t_val (e_callG C__law_ask_wheels hr hq (by decide) tk (a_cons (e_var 2) (a_cons (e_var 5) (a_cons (e_callG C__law_wheel_papers hr hq (by decide) tk (a_cons (e_var 6) (a_cons (e_b1 (c_len) T.n_len (by decide +kernel) (e_var 5)) (a_cons (e_idx (e_var 1) (e_int)) (a_nil)))) (hn := as_cons (as_cons (as_cons (as_nil rfl))))) (a_nil)))) (hn := as_cons (as_cons (as_cons (as_nil rfl)))))))))) (ss_one (s_ret (e_bl))) (ss_nil))))))
      (ss_cons (s_set 13 sc_law.nd (e_t1 (c_tuple) T.n_tuple (by decide +kernel) (e_callG C__law_values hr hq (by decide) tk (a_cons (e_var 1) (a_cons (e_var 2) (a_nil))) (hn := as_cons (as_cons (as_nil rfl))))))
      (ss_cons (s_if (t_not (t_val (e_callG C__law_ask_values hr hq (by decide) tk (a_cons (e_var 2) (a_cons (e_var 5) (a_cons (e_callG C__law_value_papers hr hq (by decide) tk (a_cons (e_var 13) (a_cons (e_idx (e_var 1) (e_int)) (a_nil))) (hn := as_cons (as_cons (as_nil rfl)))) (a_nil)))) (hn := as_cons (as_cons (as_cons (as_nil rfl))))))) (ss_one (s_ret (e_bl))) (ss_nil))
      (ss_one (s_ret (e_callG C__law_ask_refusals hr hq (by decide) tk (a_cons (e_var 2) (a_cons (e_var 5) (a_cons (e_op o_fdiv (e_idx (e_var 1) (e_int)) (e_int)) (a_nil)))) (hn := as_cons (as_cons (as_cons (as_nil rfl))))))))))))))))))))))
end
end K37
end

section
set_option Elab.async false
set_option linter.all false
set_option maxRecDepth 100000
set_option maxHeartbeats 0
namespace K37
open Py PySem L2
def d_is_integer : He.DefD := ⟨("is_integer", none), "is_integer", "is_integer", defArgs s_is_integer, defBody s_is_integer, defScope s_is_integer, [], []⟩
def d__is_bond : He.DefD := ⟨("_is_bond", none), "_is_bond", "_is_bond", defArgs s__is_bond, defBody s__is_bond, defScope s__is_bond, [], []⟩
def d_check_bonds : He.DefD := ⟨("check_bonds", none), "check_bonds", "check_bonds", defArgs s_check_bonds, defBody s_check_bonds, defScope s_check_bonds, [], []⟩
def d__lower : He.DefD := ⟨("_lower", none), "_lower", "_lower", defArgs s__lower, defBody s__lower, defScope s__lower, [], []⟩
def d__ring_behind : He.DefD := ⟨("_ring_behind", none), "_ring_behind", "_ring_behind", defArgs s__ring_behind, defBody s__ring_behind, defScope s__ring_behind, [], []⟩
def d_relax : He.DefD := ⟨("relax", none), "relax", "relax", defArgs s_relax, defBody s_relax, defScope s_relax, [], []⟩
def d_solve : He.DefD := ⟨("solve", none), "solve", "solve", defArgs s_solve, defBody s_solve, defScope s_solve, [], []⟩
def d_spread : He.DefD := ⟨("spread", none), "spread", "spread", defArgs s_spread, defBody s_spread, defScope s_spread, [], []⟩
def d_most_apart : He.DefD := ⟨("most_apart", none), "most_apart", "most_apart", defArgs s_most_apart, defBody s_most_apart, defScope s_most_apart, [], []⟩
def d_is_values : He.DefD := ⟨("is_values", none), "is_values", "is_values", defArgs s_is_values, defBody s_is_values, defScope s_is_values, [], []⟩
def d_are_linked : He.DefD := ⟨("are_linked", none), "are_linked", "are_linked", defArgs s_are_linked, defBody s_are_linked, defScope s_are_linked, [], []⟩
def d_is_closed : He.DefD := ⟨("is_closed", none), "is_closed", "is_closed", defArgs s_is_closed, defBody s_is_closed, defScope s_is_closed, [], []⟩
def d__bonds_at : He.DefD := ⟨("_bonds_at", none), "_bonds_at", "_bonds_at", defArgs s__bonds_at, defBody s__bonds_at, defScope s__bonds_at, [], []⟩
def d_is_bond_ring : He.DefD := ⟨("is_bond_ring", none), "is_bond_ring", "is_bond_ring", defArgs s_is_bond_ring, defBody s_is_bond_ring, defScope s_is_bond_ring, [], []⟩
def d_is_bond_path : He.DefD := ⟨("is_bond_path", none), "is_bond_path", "is_bond_path", defArgs s_is_bond_path, defBody s_is_bond_path, defScope s_is_bond_path, [], []⟩
def d_is_shore : He.DefD := ⟨("is_shore", none), "is_shore", "is_shore", defArgs s_is_shore, defBody s_is_shore, defScope s_is_shore, [], []⟩
def d__law_numbers : He.DefD := ⟨("_law_numbers", none), "_law_numbers", "_law_numbers", defArgs s__law_numbers, defBody s__law_numbers, defScope s__law_numbers, [], []⟩
def d__law_digits : He.DefD := ⟨("_law_digits", none), "_law_digits", "_law_digits", defArgs s__law_digits, defBody s__law_digits, defScope s__law_digits, [], []⟩
def d__law_equal : He.DefD := ⟨("_law_equal", none), "_law_equal", "_law_equal", defArgs s__law_equal, defBody s__law_equal, defScope s__law_equal, [], []⟩
def d__law_whole : He.DefD := ⟨("_law_whole", none), "_law_whole", "_law_whole", defArgs s__law_whole, defBody s__law_whole, defScope s__law_whole, [], []⟩
def d__law_values : He.DefD := ⟨("_law_values", none), "_law_values", "_law_values", defArgs s__law_values, defBody s__law_values, defScope s__law_values, [], []⟩
def d__law_bonds : He.DefD := ⟨("_law_bonds", none), "_law_bonds", "_law_bonds", defArgs s__law_bonds, defBody s__law_bonds, defScope s__law_bonds, [], []⟩
def d__law_kept : He.DefD := ⟨("_law_kept", none), "_law_kept", "_law_kept", defArgs s__law_kept, defBody s__law_kept, defScope s__law_kept, [], []⟩
def d__law_is_greatest : He.DefD := ⟨("_law_is_greatest", none), "_law_is_greatest", "_law_is_greatest", defArgs s__law_is_greatest, defBody s__law_is_greatest, defScope s__law_is_greatest, [], []⟩
def d__law_is_wheel : He.DefD := ⟨("_law_is_wheel", none), "_law_is_wheel", "_law_is_wheel", defArgs s__law_is_wheel, defBody s__law_is_wheel, defScope s__law_is_wheel, [], []⟩
def d__law_ask_values : He.DefD := ⟨("_law_ask_values", none), "_law_ask_values", "_law_ask_values", defArgs s__law_ask_values, defBody s__law_ask_values, defScope s__law_ask_values, [], []⟩
def d__law_ask_wheels : He.DefD := ⟨("_law_ask_wheels", none), "_law_ask_wheels", "_law_ask_wheels", defArgs s__law_ask_wheels, defBody s__law_ask_wheels, defScope s__law_ask_wheels, [], []⟩
def d__law_value_papers : He.DefD := ⟨("_law_value_papers", none), "_law_value_papers", "_law_value_papers", defArgs s__law_value_papers, defBody s__law_value_papers, defScope s__law_value_papers, [], []⟩
def d__law_wheel_papers : He.DefD := ⟨("_law_wheel_papers", none), "_law_wheel_papers", "_law_wheel_papers", defArgs s__law_wheel_papers, defBody s__law_wheel_papers, defScope s__law_wheel_papers, [], []⟩
def d__law_refusal : He.DefD := ⟨("_law_refusal", none), "_law_refusal", "_law_refusal", defArgs s__law_refusal, defBody s__law_refusal, defScope s__law_refusal, [], []⟩
def d__law_ask_refusals : He.DefD := ⟨("_law_ask_refusals", none), "_law_ask_refusals", "_law_ask_refusals", defArgs s__law_ask_refusals, defBody s__law_ask_refusals, defScope s__law_ask_refusals, [], []⟩
def d_law : He.DefD := ⟨("law", none), "law", "law", defArgs s_law, defBody s_law, defScope s_law, [], []⟩
def fnl : List He.DefD := [d_is_integer, d__is_bond, d_check_bonds, d__lower, d__ring_behind, d_relax, d_solve, d_spread, d_most_apart, d_is_values, d_are_linked, d_is_closed, d__bonds_at, d_is_bond_ring, d_is_bond_path, d_is_shore, d__law_numbers, d__law_digits, d__law_equal, d__law_whole, d__law_values, d__law_bonds, d__law_kept, d__law_is_greatest, d__law_is_wheel, d__law_ask_values, d__law_ask_wheels, d__law_value_papers, d__law_wheel_papers, d__law_refusal, d__law_ask_refusals, d_law]
def fal : List He.Fa := [.glo "is_integer", .glo "_is_bond", .glo "check_bonds", .glo "_lower", .glo "_ring_behind", .glo "relax", .glo "solve", .glo "spread", .glo "most_apart", .glo "is_values", .glo "are_linked", .glo "is_closed", .glo "_bonds_at", .glo "is_bond_ring", .glo "is_bond_path", .glo "is_shore", .glo "_law_numbers", .glo "_law_digits", .glo "_law_equal", .glo "_law_whole", .glo "_law_values", .glo "_law_bonds", .glo "_law_kept", .glo "_law_is_greatest", .glo "_law_is_wheel", .glo "_law_ask_values", .glo "_law_ask_wheels", .glo "_law_value_papers", .glo "_law_wheel_papers", .glo "_law_refusal", .glo "_law_ask_refusals", .glo "law", .free "all", .free "any", .free "bool", .free "enumerate", .free "int", .free "isinstance", .free "len", .free "list", .free "max", .free "min", .free "range", .free "repr", .free "reversed", .free "str", .free "sum", .free "tuple", .free "super", .int "MOST_BONDS" 300, .int "MOST_NODES" 20, .glo "BadBond", .glo "Contradiction", .glo "HearsayError", .glo "TooMany"]
def file : PySem.Str := PySem.Challenge.pw_hearsay_k37_bonds_values_or_ring.main.file
def e_BadBond : PyJ.ErrD := ⟨"BadBond", "BadBond.__init__", defArgs s_BadBond, defBody s_BadBond, defScope s_BadBond, ["place"]⟩
def e_TooMany : PyJ.ErrD := ⟨"TooMany", "TooMany.__init__", defArgs s_TooMany, defBody s_TooMany, defScope s_TooMany, ["limit"]⟩
def e_Contradiction : PyJ.ErrD := ⟨"Contradiction", "Contradiction.__init__", defArgs s_Contradiction, defBody s_Contradiction, defScope s_Contradiction, ["ring"]⟩
def errs : List PyJ.ErrD := [e_BadBond, e_TooMany, e_Contradiction]
def bool0 : PySem.W.Frag → Bool := PyJ.isB (fun K => .ref (He.ga K "BadBond")) [("BadBond", true), ("TooMany", false), ("Contradiction", false)]
def bool1 : PySem.W.Frag → Bool := PyJ.isB (fun K => .ref (He.ga K "Contradiction")) [("BadBond", false), ("TooMany", false), ("Contradiction", true)]
def bool2 : PySem.W.Frag → Bool := PyJ.isB (fun K => .ref (He.ga K "TooMany")) [("BadBond", false), ("TooMany", true), ("Contradiction", false)]
def bool3 : PySem.W.Frag → Bool := PyJ.exB (fun K => .ref (He.ga K "HearsayError")) [("BadBond", true), ("TooMany", true), ("Contradiction", true)]
def bool4 : PySem.W.Frag → Bool := PyJ.flB "limit" ["TooMany"]
def bool5 : PySem.W.Frag → Bool := PyJ.flB "place" ["BadBond"]
def bools : List (PySem.W.Frag → Bool) := [bool0, bool1, bool2, bool3, bool4, bool5]
abbrev R : PySem.W.OpenRow := PySem.W.OpenLaw.row PySem.Challenge.rw_hearsay_k37_bonds_values_or_ring
abbrev hk : PySem.W.Hook := PyJ.hookX 4 fal fnl file errs bools
def ob (s : PySem.W.SharedT) : PyJ.AlX := PyJ.obsXG 4 fal fnl file errs bools (HandSHeadRun.getT s)
theorem ob_eq (s : PySem.W.SharedT) : ob s = hk.obs s.abs := PyJ.obsXG_eq (HandSHeadRun.getT_eq s)
def lo0 : List PySem.Str := [(PySem.Str.ofString "HearsayError"), (PySem.Str.ofString "TooMany"), (PySem.Str.ofString "BadBond"), (PySem.Str.ofString "Contradiction"), (PySem.Str.ofString "is_integer"), (PySem.Str.ofString "MOST_NODES"), (PySem.Str.ofString "MOST_BONDS"), (PySem.Str.ofString "_is_bond"), (PySem.Str.ofString "check_bonds"), (PySem.Str.ofString "_lower"), (PySem.Str.ofString "_ring_behind"), (PySem.Str.ofString "relax"), (PySem.Str.ofString "solve"), (PySem.Str.ofString "spread"), (PySem.Str.ofString "most_apart"), (PySem.Str.ofString "is_values"), (PySem.Str.ofString "are_linked"), (PySem.Str.ofString "is_closed"), (PySem.Str.ofString "_bonds_at"), (PySem.Str.ofString "is_bond_ring"), (PySem.Str.ofString "is_bond_path"), (PySem.Str.ofString "is_shore"), (PySem.Str.ofString "_law_numbers"), (PySem.Str.ofString "_law_digits"), (PySem.Str.ofString "_law_equal"), (PySem.Str.ofString "_law_whole"), (PySem.Str.ofString "_law_values"), (PySem.Str.ofString "_law_bonds"), (PySem.Str.ofString "_law_kept"), (PySem.Str.ofString "_law_is_greatest"), (PySem.Str.ofString "_law_is_wheel"), (PySem.Str.ofString "_law_ask_values"), (PySem.Str.ofString "_law_ask_wheels"), (PySem.Str.ofString "_law_value_papers"), (PySem.Str.ofString "_law_wheel_papers"), (PySem.Str.ofString "_law_refusal"), (PySem.Str.ofString "_law_ask_refusals")]
def loose : List PySem.Str := lo0
theorem run (w : World) : HandSHeadRun.RunEq R (PySem.W.view R.prog [41]) hk ob 4000 loose w := by
  intro os
  kernel_rfl
/-- all defs, from the facts -/
theorem all {P : Program} (hP : ((P.main.file : PySem.Str) == file) = true) (htop : (P.main.scope.names.lookup ("super" : PySem.Str)).isSome = false) {w : World} {K : PySem.W.Frag} {h : Heap} {mg : Str → Option Value} {fa : Addr} (X : K.In h) (G : h.Ns mainGlobals mg) (hfa : mg ("law" : Str) = some (.ref fa)) (cx : PyJ.SaysX fal fnl file errs bools K) :
    ∃ fd : FuncData, (∀ (s : Shared) (v : Value), BindsTo s fd ⟨[v], []⟩ [("script", v)]) ∧ ∀ base : Heap, K.In base → base.Ns mainGlobals mg → PyGa.FnG P w K mg base (L2.CX P w) 7 fa fd ["script"] (spF K mg 1 f_law) := by
  have c := cx.d
  have h_n_all := He.free_ok X G (c.fact 32 rfl)
  have h_n_any := He.free_ok X G (c.fact 33 rfl)
  have h_n_bool := He.free_ok X G (c.fact 34 rfl)
  have h_n_enumerate := He.free_ok X G (c.fact 35 rfl)
  have h_n_int := He.free_ok X G (c.fact 36 rfl)
  have h_n_isinstance := He.free_ok X G (c.fact 37 rfl)
  have h_n_len := He.free_ok X G (c.fact 38 rfl)
  have h_n_list := He.free_ok X G (c.fact 39 rfl)
  have h_n_max := He.free_ok X G (c.fact 40 rfl)
  have h_n_min := He.free_ok X G (c.fact 41 rfl)
  have h_n_range := He.free_ok X G (c.fact 42 rfl)
  have h_n_repr := He.free_ok X G (c.fact 43 rfl)
  have h_n_reversed := He.free_ok X G (c.fact 44 rfl)
  have h_n_str := He.free_ok X G (c.fact 45 rfl)
  have h_n_sum := He.free_ok X G (c.fact 46 rfl)
  have h_n_tuple := He.free_ok X G (c.fact 47 rfl)
  have h_n_super := He.free_ok X G (c.fact 48 rfl)
  have h_c_MOST_BONDS := He.int_ok X G (c.fact 49 rfl)
  have h_c_MOST_NODES := He.int_ok X G (c.fact 50 rfl)
  have h_g_BadBond := He.glo_ok X G (c.fact 51 rfl)
  have h_g_Contradiction := He.glo_ok X G (c.fact 52 rfl)
  have h_g_HearsayError := He.glo_ok X G (c.fact 53 rfl)
  have h_g_TooMany := He.glo_ok X G (c.fact 54 rfl)
  have h_er_BadBond := errC_BadBond (w := w) (cx.err hP htop 0 (d := e_BadBond) rfl).2 (PySem.W.mg_of X G (cx.err hP htop 0 (d := e_BadBond) rfl).1) (He.free_ok X G (c.fact 48 rfl))
  have h_er_TooMany := errC_TooMany (w := w) (cx.err hP htop 1 (d := e_TooMany) rfl).2 (PySem.W.mg_of X G (cx.err hP htop 1 (d := e_TooMany) rfl).1) (He.free_ok X G (c.fact 48 rfl))
  have h_er_Contradiction := errC_Contradiction (w := w) (cx.err hP htop 2 (d := e_Contradiction) rfl).2 (PySem.W.mg_of X G (cx.err hP htop 2 (d := e_Contradiction) rfl).1) (He.free_ok X G (c.fact 48 rfl))
  have h_isq_BadBond := PyJ.isB_ok X G (cx.bool 0 (b := bool0) rfl)
  have h_isq_Contradiction := PyJ.isB_ok X G (cx.bool 1 (b := bool1) rfl)
  have h_isq_TooMany := PyJ.isB_ok X G (cx.bool 2 (b := bool2) rfl)
  have h_exq_HearsayError := PyJ.exB_ok X G (cx.bool 3 (b := bool3) rfl)
  have h_flq_limit := PyJ.flB_ok X G (cx.bool 4 (b := bool4) rfl)
  have h_flq_place := PyJ.flB_ok X G (cx.bool 5 (b := bool5) rfl)
  have T : Txt P w K mg := ⟨h_n_all, h_n_any, h_n_bool, h_n_enumerate, h_n_int, h_n_isinstance, h_n_len, h_n_list, h_n_max, h_n_min, h_n_range, h_n_repr, h_n_reversed, h_n_str, h_n_sum, h_n_tuple, h_n_super, h_c_MOST_BONDS, h_c_MOST_NODES, h_g_BadBond, h_g_Contradiction, h_g_HearsayError, h_g_TooMany, h_er_BadBond, h_er_TooMany, h_er_Contradiction, h_isq_BadBond, h_isq_Contradiction, h_isq_TooMany, h_exq_HearsayError, h_flq_limit, h_flq_place⟩
  obtain ⟨fd_is_integer, F_is_integer⟩ := c.def_ 0 (d := d_is_integer) rfl
  obtain ⟨fd__is_bond, F__is_bond⟩ := c.def_ 1 (d := d__is_bond) rfl
  obtain ⟨fd_check_bonds, F_check_bonds⟩ := c.def_ 2 (d := d_check_bonds) rfl
  obtain ⟨fd__lower, F__lower⟩ := c.def_ 3 (d := d__lower) rfl
  obtain ⟨fd__ring_behind, F__ring_behind⟩ := c.def_ 4 (d := d__ring_behind) rfl
  obtain ⟨fd_relax, F_relax⟩ := c.def_ 5 (d := d_relax) rfl
  obtain ⟨fd_solve, F_solve⟩ := c.def_ 6 (d := d_solve) rfl
  obtain ⟨fd_spread, F_spread⟩ := c.def_ 7 (d := d_spread) rfl
  obtain ⟨fd_most_apart, F_most_apart⟩ := c.def_ 8 (d := d_most_apart) rfl
  obtain ⟨fd_is_values, F_is_values⟩ := c.def_ 9 (d := d_is_values) rfl
  obtain ⟨fd_are_linked, F_are_linked⟩ := c.def_ 10 (d := d_are_linked) rfl
  obtain ⟨fd_is_closed, F_is_closed⟩ := c.def_ 11 (d := d_is_closed) rfl
  obtain ⟨fd__bonds_at, F__bonds_at⟩ := c.def_ 12 (d := d__bonds_at) rfl
  obtain ⟨fd_is_bond_ring, F_is_bond_ring⟩ := c.def_ 13 (d := d_is_bond_ring) rfl
  obtain ⟨fd_is_bond_path, F_is_bond_path⟩ := c.def_ 14 (d := d_is_bond_path) rfl
  obtain ⟨fd_is_shore, F_is_shore⟩ := c.def_ 15 (d := d_is_shore) rfl
  obtain ⟨fd__law_numbers, F__law_numbers⟩ := c.def_ 16 (d := d__law_numbers) rfl
  obtain ⟨fd__law_digits, F__law_digits⟩ := c.def_ 17 (d := d__law_digits) rfl
  obtain ⟨fd__law_equal, F__law_equal⟩ := c.def_ 18 (d := d__law_equal) rfl
  obtain ⟨fd__law_whole, F__law_whole⟩ := c.def_ 19 (d := d__law_whole) rfl
  obtain ⟨fd__law_values, F__law_values⟩ := c.def_ 20 (d := d__law_values) rfl
  obtain ⟨fd__law_bonds, F__law_bonds⟩ := c.def_ 21 (d := d__law_bonds) rfl
  obtain ⟨fd__law_kept, F__law_kept⟩ := c.def_ 22 (d := d__law_kept) rfl
  obtain ⟨fd__law_is_greatest, F__law_is_greatest⟩ := c.def_ 23 (d := d__law_is_greatest) rfl
  obtain ⟨fd__law_is_wheel, F__law_is_wheel⟩ := c.def_ 24 (d := d__law_is_wheel) rfl
  obtain ⟨fd__law_ask_values, F__law_ask_values⟩ := c.def_ 25 (d := d__law_ask_values) rfl
  obtain ⟨fd__law_ask_wheels, F__law_ask_wheels⟩ := c.def_ 26 (d := d__law_ask_wheels) rfl
  obtain ⟨fd__law_value_papers, F__law_value_papers⟩ := c.def_ 27 (d := d__law_value_papers) rfl
  obtain ⟨fd__law_wheel_papers, F__law_wheel_papers⟩ := c.def_ 28 (d := d__law_wheel_papers) rfl
  obtain ⟨fd__law_refusal, F__law_refusal⟩ := c.def_ 29 (d := d__law_refusal) rfl
  obtain ⟨fd__law_ask_refusals, F__law_ask_refusals⟩ := c.def_ 30 (d := d__law_ask_refusals) rfl
  obtain ⟨fd_law, F_law⟩ := c.def_ 31 (d := d_law) rfl
  have e := hfa.symm.trans (He.glo_ok X G (c.fact 31 (f := .glo "law") rfl))
  cases e
  have b := FunD.bindsA (ps := ["script"]) F_law fun _ _ _ _ _ _ us hl => match us, hl with | [_], _ => rfl
  refine ⟨fd_law, fun s v => b s [v] rfl, fun base _ _ => ?_⟩
  have C_is_integer := ok_is_integer (P := P) (w := w) (base := base) T F_is_integer (He.glo_ok X G (c.fact 0 (f := .glo "is_integer") rfl))
  have C__is_bond := ok__is_bond (P := P) (w := w) (base := base) T F__is_bond (He.glo_ok X G (c.fact 1 (f := .glo "_is_bond") rfl)) C_is_integer
  have C_check_bonds := ok_check_bonds (P := P) (w := w) (base := base) T F_check_bonds (He.glo_ok X G (c.fact 2 (f := .glo "check_bonds") rfl)) C_is_integer C__is_bond
  have C__lower := ok__lower (P := P) (w := w) (base := base) T F__lower (He.glo_ok X G (c.fact 3 (f := .glo "_lower") rfl))
  have C__ring_behind := ok__ring_behind (P := P) (w := w) (base := base) T F__ring_behind (He.glo_ok X G (c.fact 4 (f := .glo "_ring_behind") rfl))
  have C_relax := ok_relax (P := P) (w := w) (base := base) T F_relax (He.glo_ok X G (c.fact 5 (f := .glo "relax") rfl)) C__lower C__ring_behind
  have C_solve := ok_solve (P := P) (w := w) (base := base) T F_solve (He.glo_ok X G (c.fact 6 (f := .glo "solve") rfl)) C_check_bonds C_relax
  have C_spread := ok_spread (P := P) (w := w) (base := base) T F_spread (He.glo_ok X G (c.fact 7 (f := .glo "spread") rfl)) C__lower
  have C_most_apart := ok_most_apart (P := P) (w := w) (base := base) T F_most_apart (He.glo_ok X G (c.fact 8 (f := .glo "most_apart") rfl)) C_check_bonds C_relax C_spread
  have C_is_values := ok_is_values (P := P) (w := w) (base := base) T F_is_values (He.glo_ok X G (c.fact 9 (f := .glo "is_values") rfl)) C_is_integer C_check_bonds
  have C_are_linked := ok_are_linked (P := P) (w := w) (base := base) T F_are_linked (He.glo_ok X G (c.fact 10 (f := .glo "are_linked") rfl))
  have C_is_closed := ok_is_closed (P := P) (w := w) (base := base) T F_is_closed (He.glo_ok X G (c.fact 11 (f := .glo "is_closed") rfl)) C_are_linked
  have C__bonds_at := ok__bonds_at (P := P) (w := w) (base := base) T F__bonds_at (He.glo_ok X G (c.fact 12 (f := .glo "_bonds_at") rfl)) C_is_integer
  have C_is_bond_ring := ok_is_bond_ring (P := P) (w := w) (base := base) T F_is_bond_ring (He.glo_ok X G (c.fact 13 (f := .glo "is_bond_ring") rfl)) C_check_bonds C_is_closed C__bonds_at
  have C_is_bond_path := ok_is_bond_path (P := P) (w := w) (base := base) T F_is_bond_path (He.glo_ok X G (c.fact 14 (f := .glo "is_bond_path") rfl)) C_check_bonds C_are_linked C__bonds_at
  have C_is_shore := ok_is_shore (P := P) (w := w) (base := base) T F_is_shore (He.glo_ok X G (c.fact 15 (f := .glo "is_shore") rfl)) C_is_integer C_check_bonds
  have C__law_numbers := ok__law_numbers (P := P) (w := w) (base := base) T F__law_numbers (He.glo_ok X G (c.fact 16 (f := .glo "_law_numbers") rfl))
  have C__law_digits := ok__law_digits (P := P) (w := w) (base := base) T F__law_digits (He.glo_ok X G (c.fact 17 (f := .glo "_law_digits") rfl))
  have C__law_equal := ok__law_equal (P := P) (w := w) (base := base) T F__law_equal (He.glo_ok X G (c.fact 18 (f := .glo "_law_equal") rfl))
  have C__law_whole := ok__law_whole (P := P) (w := w) (base := base) T F__law_whole (He.glo_ok X G (c.fact 19 (f := .glo "_law_whole") rfl))
  have C__law_values := ok__law_values (P := P) (w := w) (base := base) T F__law_values (He.glo_ok X G (c.fact 20 (f := .glo "_law_values") rfl)) C__law_digits
  have C__law_bonds := ok__law_bonds (P := P) (w := w) (base := base) T F__law_bonds (He.glo_ok X G (c.fact 21 (f := .glo "_law_bonds") rfl)) C__law_digits C__law_values
  have C__law_kept := ok__law_kept (P := P) (w := w) (base := base) T F__law_kept (He.glo_ok X G (c.fact 22 (f := .glo "_law_kept") rfl)) C__law_whole
  have C__law_is_greatest := ok__law_is_greatest (P := P) (w := w) (base := base) T F__law_is_greatest (He.glo_ok X G (c.fact 23 (f := .glo "_law_is_greatest") rfl))
  have C__law_is_wheel := ok__law_is_wheel (P := P) (w := w) (base := base) T F__law_is_wheel (He.glo_ok X G (c.fact 24 (f := .glo "_law_is_wheel") rfl)) C__law_whole
  have C__law_ask_values := ok__law_ask_values (P := P) (w := w) (base := base) T F__law_ask_values (He.glo_ok X G (c.fact 25 (f := .glo "_law_ask_values") rfl)) C_is_values C__law_equal C__law_kept
  have C__law_ask_wheels := ok__law_ask_wheels (P := P) (w := w) (base := base) T F__law_ask_wheels (He.glo_ok X G (c.fact 26 (f := .glo "_law_ask_wheels") rfl)) C_is_bond_ring C__law_equal C__law_is_wheel
  have C__law_value_papers := ok__law_value_papers (P := P) (w := w) (base := base) T F__law_value_papers (He.glo_ok X G (c.fact 27 (f := .glo "_law_value_papers") rfl))
  have C__law_wheel_papers := ok__law_wheel_papers (P := P) (w := w) (base := base) T F__law_wheel_papers (He.glo_ok X G (c.fact 28 (f := .glo "_law_wheel_papers") rfl))
  have C__law_refusal := ok__law_refusal (P := P) (w := w) (base := base) T F__law_refusal (He.glo_ok X G (c.fact 29 (f := .glo "_law_refusal") rfl)) C_solve C_most_apart C_is_values C_is_bond_ring C_is_bond_path C_is_shore
  have C__law_ask_refusals := ok__law_ask_refusals (P := P) (w := w) (base := base) T F__law_ask_refusals (He.glo_ok X G (c.fact 30 (f := .glo "_law_ask_refusals") rfl)) C__law_digits C__law_equal C__law_refusal
  exact okF_law (P := P) (w := w) (base := base) T F_law C_solve C__law_numbers C__law_digits C__law_equal C__law_values C__law_bonds C__law_kept C__law_is_greatest C__law_is_wheel C__law_ask_values C__law_ask_wheels C__law_value_papers C__law_wheel_papers C__law_refusal C__law_ask_refusals
end K37

open PySem PySem.W PySem.Calls PyProof.Rows in
theorem rw_hearsay_k37_bonds_values_or_ring_holds_of (hlaw : ∀ (is : List Int), Py.wp (K37.f_law [.ref 0] [.frz (is.map .int)]) fun v _ => v = .bl true) : PySem.Challenge.rw_hearsay_k37_bonds_values_or_ring.Holds := by
  w_on; o_law
  refine HandSHeadRun.head_any (r := OpenLaw.row PySem.Challenge.rw_hearsay_k37_bonds_values_or_ring) (q := view (OpenLaw.row PySem.Challenge.rw_hearsay_k37_bonds_values_or_ring).prog [41]) (H := K37.hk) (ob := K37.ob) (M := 4000) (loose := K37.loose) (d := HandSHeadRun.topDef (OpenLaw.row PySem.Challenge.rw_hearsay_k37_bonds_values_or_ring).prog 41) (kwd := []) K37.ob_eq
    (by kernel_rfl) (fun s => by kernel_rfl) K37.run (by kernel_rfl) (by kernel_rfl) (by kernel_rfl) (by rfl) (by first | assumption | decide +kernel) (by decide +kernel) ⟨rfl, rfl, rfl, rfl, rfl, by decide +kernel⟩ ?hw ?hc
  case hw => w_witness2
  case hc =>
    refine PyGa.walk_G (l := PySem.Challenge.rw_hearsay_k37_bonds_values_or_ring) (n := 63) (k := 7) (x := "script") (CX := L2.CX0) rfl (by decide) (by kernel_rfl) ⟨rfl, by decide, by decide⟩ ?F (fun _ _ _ _ z => z)
    intro w mg fa h Y G hmg0
    obtain ⟨K, KX, c⟩ := Y
    have hmg : mg ("law" : PySem.Str) = some (.ref fa) := by
      have e : (HandSHeadRun.topDef (OpenLaw.row PySem.Challenge.rw_hearsay_k37_bonds_values_or_ring).prog 41).name = ("law" : PySem.Str) := by kernel_rfl
      rw [← e]
      exact hmg0
    obtain ⟨fd, hb, hF⟩ := K37.all (P := (PySem.Challenge.rw_hearsay_k37_bonds_values_or_ring).prog) (by decide +kernel) (by decide +kernel) (w := w) KX G hmg c
    exact ⟨K, fd, Py.sp0 (Py.spF K mg 1 K37.f_law), KX, hb, fun H a ns hl hO hS => Py.start_sp hO hS (hlaw ns), fun base h1 h2 => Py.calmG (hF base h1 h2)⟩
end

section
set_option autoImplicit false
set_option linter.all false
set_option maxRecDepth 100000
/-! The program as bundles of the pure semantics; printed by genv.py. -/
namespace K37
noncomputable section
open Py
def vb_is_integer : St [] := St.ret (E.and (E.op1 (Isi .int).op (E.var 0)) (E.not (E.op1 (Isi .bool).op (E.var 0))))
def F_is_integer : Fn := Fn.mk' 1 1 [] vb_is_integer (fun _ h => nomatch h)
theorem m_is_integer : F_is_integer.m = f_is_integer := by
  delta f_is_integer b_is_integer 
  rfl
theorem wf_is_integer {us : List U} {Q : U → VEnv → Prop} {Z : VX → VEnv → Prop} : wF (F_is_integer.v us) Q Z ↔ us.length = 1 ∧ wS (vb_is_integer.v (us.map some ++ List.replicate (1 - 1) none)) ⟨fun σ => Q (.fz .non) (outsV 1 [] σ), fun u σ => Q u (outsV 1 [] σ), fun _ => False, fun _ => False, fun x σ => Z x (outsV 1 [] σ)⟩ := f_mk 1 1 [] vb_is_integer (fun _ h => nomatch h) us
@[simp] theorem ios_is_integer : F_is_integer.ios = [] := rfl
abbrev vq1__is_bond : St [] := St.ret (E.and (E.chain Le_ Lt_ (E.int 0) (E.op2 Idx.op (E.var 1) (E.int 0)) (E.var 0)) (E.chain Le_ Lt_ (E.int 0) (E.op2 Idx.op (E.var 1) (E.int 1)) (E.var 0)))
def vb__is_bond : St [] := St.seq (St.ite (Te.or (Te.not (Te.val (E.op1 (Isi .tuple).op (E.var 1)))) (Te.or (Te.val (E.op2 Ne_.op (E.op1 Len.op (E.var 1)) (E.int 3))) (Te.not (Te.val (E.op1 All_.op (E.lc (It.any (E.var 1)) (Tgt.name 2) (Te.yes) (E.call F_is_integer (arCons (E.var 2) (arNil))))))))) (St.ret (E.bl false)) (St.nil)) vq1__is_bond
def F__is_bond : Fn := Fn.mk' 2 3 [] vb__is_bond (fun _ h => nomatch h)
theorem m__is_bond : F__is_bond.m = f__is_bond := by
  delta f__is_bond b__is_bond q1__is_bond
  simp only [← m_is_integer]
  rfl
theorem wf__is_bond {us : List U} {Q : U → VEnv → Prop} {Z : VX → VEnv → Prop} : wF (F__is_bond.v us) Q Z ↔ us.length = 2 ∧ wS (vb__is_bond.v (us.map some ++ List.replicate (3 - 2) none)) ⟨fun σ => Q (.fz .non) (outsV 2 [] σ), fun u σ => Q u (outsV 2 [] σ), fun _ => False, fun _ => False, fun x σ => Z x (outsV 2 [] σ)⟩ := f_mk 2 3 [] vb__is_bond (fun _ h => nomatch h) us
@[simp] theorem ios__is_bond : F__is_bond.ios = [] := rfl
abbrev vw1_check_bonds : St [] := St.ite (Te.not (Te.val (E.call F__is_bond (arCons (E.var 0) (arCons (E.var 3) (arNil)))))) (St.raise "BadBond" ["place"] (arCons (E.var 2) (arNil))) (St.nil)
abbrev vq1_check_bonds : St [] := St.for' (It.enum (E.var 1)) (Tgt.tup (Tgts.cons (Tgt.name 2) (Tgts.cons (Tgt.name 3) (Tgts.nil)))) vw1_check_bonds (fun _ h => nomatch h)
abbrev vq2_check_bonds : St [] := St.seq (St.ite (Te.val (E.op2 Gt_.op (E.op1 Len.op (E.var 1)) (E.int 300))) (St.raise "TooMany" ["limit"] (arCons (E.int 300) (arNil))) (St.nil)) vq1_check_bonds
def vb_check_bonds : St [] := St.seq (St.ite (Te.or (Te.not (Te.val (E.call F_is_integer (arCons (E.var 0) (arNil))))) (Te.not (Te.val (E.chain Le_ Le_ (E.int 1) (E.var 0) (E.int 20))))) (St.raise "BadBond" ["place"] (arCons (E.op1 Neg (E.int 1)) (arNil))) (St.nil)) vq2_check_bonds
def F_check_bonds : Fn := Fn.mk' 2 4 [] vb_check_bonds (fun _ h => nomatch h)
theorem m_check_bonds : F_check_bonds.m = f_check_bonds := by
  delta f_check_bonds b_check_bonds w1_check_bonds q1_check_bonds q2_check_bonds
  simp only [← m_is_integer, ← m__is_bond]
  rfl
theorem wf_check_bonds {us : List U} {Q : U → VEnv → Prop} {Z : VX → VEnv → Prop} : wF (F_check_bonds.v us) Q Z ↔ us.length = 2 ∧ wS (vb_check_bonds.v (us.map some ++ List.replicate (4 - 2) none)) ⟨fun σ => Q (.fz .non) (outsV 2 [] σ), fun u σ => Q u (outsV 2 [] σ), fun _ => False, fun _ => False, fun x σ => Z x (outsV 2 [] σ)⟩ := f_mk 2 4 [] vb_check_bonds (fun _ h => nomatch h) us
@[simp] theorem ios_check_bonds : F_check_bonds.ios = [] := rfl
abbrev vq1__lower : St [] := St.asg' (E.var 7) (Tgt.name 3) (fun _ h => nomatch h)
abbrev vq2__lower : St [] := St.seq (St.setI 2 (E.var 7) (E.var 4)) vq1__lower
abbrev vq3__lower : St [] := St.ite (Te.and (Te.val (E.op2 NotN_.op (E.op2 Idx.op (E.bor 1) (E.var 6)) (E.non))) (Te.or (Te.val (E.op2 IsN_.op (E.op2 Idx.op (E.bor 1) (E.var 7)) (E.non))) (Te.val (E.op2 Lt_.op (E.op2 Add (E.op2 Idx.op (E.bor 1) (E.var 6)) (E.var 8)) (E.op2 Idx.op (E.bor 1) (E.var 7)))))) (St.seq (St.setI 1 (E.var 7) (E.op2 Add (E.op2 Idx.op (E.bor 1) (E.var 6)) (E.var 8))) vq2__lower) (St.nil)
abbrev vw1__lower : St [] := St.seq (St.asg' (E.var 5) (Tgt.tup (Tgts.cons (Tgt.name 6) (Tgts.cons (Tgt.name 7) (Tgts.cons (Tgt.name 8) (Tgts.nil))))) (fun _ h => nomatch h)) vq3__lower
abbrev vq4__lower : St [] := St.ret (E.mov 3)
abbrev vq5__lower : St [] := St.seq (St.for' (It.enum (E.var 0)) (Tgt.tup (Tgts.cons (Tgt.name 4) (Tgts.cons (Tgt.name 5) (Tgts.nil)))) vw1__lower (fun _ h => nomatch h)) vq4__lower
def vb__lower : St [] := St.seq (St.asg' (E.op1 Neg (E.int 1)) (Tgt.name 3) (fun _ h => nomatch h)) vq5__lower
def F__lower : Fn := Fn.mk' 3 9 [1, 2] vb__lower (by decide)
theorem m__lower : F__lower.m = f__lower := by
  delta f__lower b__lower q1__lower q2__lower q3__lower w1__lower q4__lower q5__lower
  rfl
theorem wf__lower {us : List U} {Q : U → VEnv → Prop} {Z : VX → VEnv → Prop} : wF (F__lower.v us) Q Z ↔ us.length = 3 ∧ wS (vb__lower.v (us.map some ++ List.replicate (9 - 3) none)) ⟨fun σ => Q (.fz .non) (outsV 3 [1, 2] σ), fun u σ => Q u (outsV 3 [1, 2] σ), fun _ => False, fun _ => False, fun x σ => Z x (outsV 3 [1, 2] σ)⟩ := f_mk 3 9 [1, 2] vb__lower (by decide) us
@[simp] theorem ios__lower : F__lower.ios = [1, 2] := rfl
abbrev vw1__ring_behind : St [] := St.asg' (E.op2 Idx.op (E.op2 Idx.op (E.var 1) (E.op2 Idx.op (E.var 2) (E.var 3))) (E.int 0)) (Tgt.name 3) (fun _ h => nomatch h)
abbrev vq1__ring_behind : St [] := St.asg' (E.op2 Idx.op (E.op2 Idx.op (E.var 1) (E.op2 Idx.op (E.var 2) (E.var 3))) (E.int 0)) (Tgt.name 3) (fun _ h => nomatch h)
abbrev vw2__ring_behind : St [] := St.seq (St.expr (E.app 6 (E.op2 Idx.op (E.var 2) (E.var 3)))) vq1__ring_behind
abbrev vq2__ring_behind : St [] := St.ret (E.op1 Rev_ (E.bor 6))
abbrev vq3__ring_behind : St [] := St.seq (St.while' (Te.val (E.op2 Ne_.op (E.var 3) (E.var 5))) vw2__ring_behind) vq2__ring_behind
abbrev vq4__ring_behind : St [] := St.seq (St.asg' (E.op2 Idx.op (E.op2 Idx.op (E.var 1) (E.op2 Idx.op (E.var 2) (E.var 3))) (E.int 0)) (Tgt.name 3) (fun _ h => nomatch h)) vq3__ring_behind
abbrev vq5__ring_behind : St [] := St.seq (St.asg' (E.lst (arCons (E.op2 Idx.op (E.var 2) (E.var 3)) (arNil))) (Tgt.name 6) (fun _ h => nomatch h)) vq4__ring_behind
abbrev vq6__ring_behind : St [] := St.seq (St.asg' (E.var 3) (Tgt.name 5) (fun _ h => nomatch h)) vq5__ring_behind
def vb__ring_behind : St [] := St.seq (St.for' (It.rng1 (E.var 0)) (Tgt.name 4) vw1__ring_behind (fun _ h => nomatch h)) vq6__ring_behind
def F__ring_behind : Fn := Fn.mk' 4 7 [] vb__ring_behind (fun _ h => nomatch h)
theorem m__ring_behind : F__ring_behind.m = f__ring_behind := by
  delta f__ring_behind b__ring_behind w1__ring_behind q1__ring_behind w2__ring_behind q2__ring_behind q3__ring_behind q4__ring_behind q5__ring_behind q6__ring_behind
  rfl
theorem wf__ring_behind {us : List U} {Q : U → VEnv → Prop} {Z : VX → VEnv → Prop} : wF (F__ring_behind.v us) Q Z ↔ us.length = 4 ∧ wS (vb__ring_behind.v (us.map some ++ List.replicate (7 - 4) none)) ⟨fun σ => Q (.fz .non) (outsV 4 [] σ), fun u σ => Q u (outsV 4 [] σ), fun _ => False, fun _ => False, fun x σ => Z x (outsV 4 [] σ)⟩ := f_mk 4 7 [] vb__ring_behind (fun _ h => nomatch h) us
@[simp] theorem ios__ring_behind : F__ring_behind.ios = [] := rfl
abbrev vq1_relax : St [] := St.ite (Te.val (E.op2 Eq_.op (E.var 4) (E.op1 Neg (E.int 1)))) (St.ret (E.tup (arCons (E.op1 Tuple_ (E.bor 2)) (arCons (E.non) (arNil))))) (St.nil)
abbrev vw1_relax : St [] := St.seq (St.asg' (E.call F__lower (arCons (E.var 1) (arCons (E.bor 2) (arCons (E.bor 3) (arNil))))) (Tgt.name 4) (fun _ h => nomatch h)) vq1_relax
abbrev vq2_relax : St [] := St.ret (E.tup (arCons (E.non) (arCons (E.call F__ring_behind (arCons (E.var 0) (arCons (E.var 1) (arCons (E.bor 3) (arCons (E.var 4) (arNil)))))) (arNil))))
abbrev vq3_relax : St [] := St.seq (St.for' (It.rng1 (E.var 0)) (Tgt.name 5) vw1_relax (fun _ h => nomatch h)) vq2_relax
abbrev vq4_relax : St [] := St.seq (St.asg' (E.op1 Neg (E.int 1)) (Tgt.name 4) (fun _ h => nomatch h)) vq3_relax
abbrev vq5_relax : St [] := St.seq (St.asg' (E.lc (It.rng1 (E.var 0)) (Tgt.name 5) (Te.yes) (E.op1 Neg (E.int 1))) (Tgt.name 3) (fun _ h => nomatch h)) vq4_relax
def vb_relax : St [] := St.seq (St.asg' (E.lc (It.rng1 (E.var 0)) (Tgt.name 5) (Te.yes) (E.int 0)) (Tgt.name 2) (fun _ h => nomatch h)) vq5_relax
def F_relax : Fn := Fn.mk' 2 6 [] vb_relax (fun _ h => nomatch h)
theorem m_relax : F_relax.m = f_relax := by
  delta f_relax b_relax q1_relax w1_relax q2_relax q3_relax q4_relax q5_relax
  simp only [← m__lower, ← m__ring_behind]
  rfl
theorem wf_relax {us : List U} {Q : U → VEnv → Prop} {Z : VX → VEnv → Prop} : wF (F_relax.v us) Q Z ↔ us.length = 2 ∧ wS (vb_relax.v (us.map some ++ List.replicate (6 - 2) none)) ⟨fun σ => Q (.fz .non) (outsV 2 [] σ), fun u σ => Q u (outsV 2 [] σ), fun _ => False, fun _ => False, fun x σ => Z x (outsV 2 [] σ)⟩ := f_mk 2 6 [] vb_relax (fun _ h => nomatch h) us
@[simp] theorem ios_relax : F_relax.ios = [] := rfl
abbrev vq1_solve : St [] := St.ret (E.tup (arCons (E.str ['v', 'a', 'l', 'u', 'e', 's']) (arCons (E.var 2) (arNil))))
abbrev vq2_solve : St [] := St.seq (St.ite (Te.val (E.op2 IsN_.op (E.var 2) (E.non))) (St.ret (E.tup (arCons (E.str ['r', 'i', 'n', 'g']) (arCons (E.var 3) (arNil))))) (St.nil)) vq1_solve
abbrev vq3_solve : St [] := St.seq (St.asg' (E.call F_relax (arCons (E.var 0) (arCons (E.var 1) (arNil)))) (Tgt.tup (Tgts.cons (Tgt.name 2) (Tgts.cons (Tgt.name 3) (Tgts.nil)))) (fun _ h => nomatch h)) vq2_solve
def vb_solve : St [] := St.seq (St.expr (E.call F_check_bonds (arCons (E.var 0) (arCons (E.var 1) (arNil))))) vq3_solve
def F_solve : Fn := Fn.mk' 2 4 [] vb_solve (fun _ h => nomatch h)
theorem m_solve : F_solve.m = f_solve := by
  delta f_solve b_solve q1_solve q2_solve q3_solve
  simp only [← m_check_bonds, ← m_relax]
  rfl
theorem wf_solve {us : List U} {Q : U → VEnv → Prop} {Z : VX → VEnv → Prop} : wF (F_solve.v us) Q Z ↔ us.length = 2 ∧ wS (vb_solve.v (us.map some ++ List.replicate (4 - 2) none)) ⟨fun σ => Q (.fz .non) (outsV 2 [] σ), fun u σ => Q u (outsV 2 [] σ), fun _ => False, fun _ => False, fun x σ => Z x (outsV 2 [] σ)⟩ := f_mk 2 4 [] vb_solve (fun _ h => nomatch h) us
@[simp] theorem ios_solve : F_solve.ios = [] := rfl
abbrev vw1_spread : St [] := St.ite (Te.val (E.op2 Eq_.op (E.call F__lower (arCons (E.var 1) (arCons (E.bor 3) (arCons (E.bor 4) (arNil))))) (E.op1 Neg (E.int 1)))) (St.ret (E.tup (arCons (E.var 3) (arCons (E.var 4) (arNil))))) (St.nil)
abbrev vq1_spread : St [] := St.ret (E.tup (arCons (E.var 3) (arCons (E.var 4) (arNil))))
abbrev vq2_spread : St [] := St.seq (St.for' (It.rng1 (E.var 0)) (Tgt.name 5) vw1_spread (fun _ h => nomatch h)) vq1_spread
abbrev vq3_spread : St [] := St.seq (St.asg' (E.lc (It.rng1 (E.var 0)) (Tgt.name 5) (Te.yes) (E.op1 Neg (E.int 1))) (Tgt.name 4) (fun _ h => nomatch h)) vq2_spread
abbrev vq4_spread : St [] := St.seq (St.setI 3 (E.var 2) (E.int 0)) vq3_spread
def vb_spread : St [] := St.seq (St.asg' (E.lc (It.rng1 (E.var 0)) (Tgt.name 5) (Te.yes) (E.non)) (Tgt.name 3) (fun _ h => nomatch h)) vq4_spread
def F_spread : Fn := Fn.mk' 3 6 [] vb_spread (fun _ h => nomatch h)
theorem m_spread : F_spread.m = f_spread := by
  delta f_spread b_spread w1_spread q1_spread q2_spread q3_spread q4_spread
  simp only [← m__lower]
  rfl
theorem wf_spread {us : List U} {Q : U → VEnv → Prop} {Z : VX → VEnv → Prop} : wF (F_spread.v us) Q Z ↔ us.length = 3 ∧ wS (vb_spread.v (us.map some ++ List.replicate (6 - 3) none)) ⟨fun σ => Q (.fz .non) (outsV 3 [] σ), fun u σ => Q u (outsV 3 [] σ), fun _ => False, fun _ => False, fun x σ => Z x (outsV 3 [] σ)⟩ := f_mk 3 6 [] vb_spread (fun _ h => nomatch h) us
@[simp] theorem ios_spread : F_spread.ios = [] := rfl
abbrev vq1_most_apart : St [] := St.asg' (E.op2 Idx.op (E.op2 Idx.op (E.var 1) (E.op2 Idx.op (E.var 6) (E.var 8))) (E.int 0)) (Tgt.name 8) (fun _ h => nomatch h)
abbrev vw1_most_apart : St [] := St.seq (St.expr (E.app 7 (E.op2 Idx.op (E.var 6) (E.var 8)))) vq1_most_apart
abbrev vq2_most_apart : St [] := St.ret (E.tup (arCons (E.str ['m', 'o', 's', 't']) (arCons (E.op2 Idx.op (E.var 5) (E.var 3)) (arCons (E.op1 Rev_ (E.bor 7)) (arNil)))))
abbrev vq3_most_apart : St [] := St.seq (St.while' (Te.val (E.op2 Ne_.op (E.var 8) (E.var 2))) vw1_most_apart) vq2_most_apart
abbrev vq4_most_apart : St [] := St.seq (St.asg' (E.var 3) (Tgt.name 8) (fun _ h => nomatch h)) vq3_most_apart
abbrev vq5_most_apart : St [] := St.seq (St.asg' (E.lst (arNil)) (Tgt.name 7) (fun _ h => nomatch h)) vq4_most_apart
abbrev vq6_most_apart : St [] := St.seq (St.ite (Te.val (E.op2 IsN_.op (E.op2 Idx.op (E.var 5) (E.var 3)) (E.non))) (St.ret (E.tup (arCons (E.str ['s', 'h', 'o', 'r', 'e']) (arCons (E.lc (It.enum (E.var 5)) (Tgt.tup (Tgts.cons (Tgt.name 8) (Tgts.cons (Tgt.name 9) (Tgts.nil)))) (Te.val (E.op2 NotN_.op (E.var 9) (E.non))) (E.var 8)) (arNil))))) (St.nil)) vq5_most_apart
abbrev vq7_most_apart : St [] := St.seq (St.asg' (E.call F_spread (arCons (E.var 0) (arCons (E.var 1) (arCons (E.var 2) (arNil))))) (Tgt.tup (Tgts.cons (Tgt.name 5) (Tgts.cons (Tgt.name 6) (Tgts.nil)))) (fun _ h => nomatch h)) vq6_most_apart
abbrev vq8_most_apart : St [] := St.seq (St.ite (Te.val (E.op2 NotN_.op (E.var 4) (E.non))) (St.raise "Contradiction" ["ring"] (arCons (E.var 4) (arNil))) (St.nil)) vq7_most_apart
abbrev vq9_most_apart : St [] := St.seq (St.asg' (E.op2 Idx.op (E.call F_relax (arCons (E.var 0) (arCons (E.var 1) (arNil)))) (E.int 1)) (Tgt.name 4) (fun _ h => nomatch h)) vq8_most_apart
def vb_most_apart : St [] := St.seq (St.expr (E.call F_check_bonds (arCons (E.var 0) (arCons (E.var 1) (arNil))))) vq9_most_apart
def F_most_apart : Fn := Fn.mk' 4 10 [] vb_most_apart (fun _ h => nomatch h)
theorem m_most_apart : F_most_apart.m = f_most_apart := by
  delta f_most_apart b_most_apart q1_most_apart w1_most_apart q2_most_apart q3_most_apart q4_most_apart q5_most_apart q6_most_apart q7_most_apart q8_most_apart q9_most_apart
  simp only [← m_check_bonds, ← m_relax, ← m_spread]
  rfl
theorem wf_most_apart {us : List U} {Q : U → VEnv → Prop} {Z : VX → VEnv → Prop} : wF (F_most_apart.v us) Q Z ↔ us.length = 4 ∧ wS (vb_most_apart.v (us.map some ++ List.replicate (10 - 4) none)) ⟨fun σ => Q (.fz .non) (outsV 4 [] σ), fun u σ => Q u (outsV 4 [] σ), fun _ => False, fun _ => False, fun x σ => Z x (outsV 4 [] σ)⟩ := f_mk 4 10 [] vb_most_apart (fun _ h => nomatch h) us
@[simp] theorem ios_most_apart : F_most_apart.ios = [] := rfl
abbrev vq1_is_values : St [] := St.ret (E.op1 All_.op (E.lc (It.any (E.var 1)) (Tgt.tup (Tgts.cons (Tgt.name 4) (Tgts.cons (Tgt.name 5) (Tgts.cons (Tgt.name 6) (Tgts.nil))))) (Te.yes) (E.op2 Le_.op (E.op2 Idx.op (E.var 2) (E.var 5)) (E.op2 Add (E.op2 Idx.op (E.var 2) (E.var 4)) (E.var 6)))))
abbrev vq2_is_values : St [] := St.seq (St.ite (Te.not (Te.val (E.op1 All_.op (E.lc (It.any (E.var 2)) (Tgt.name 3) (Te.yes) (E.call F_is_integer (arCons (E.var 3) (arNil))))))) (St.ret (E.bl false)) (St.nil)) vq1_is_values
abbrev vq3_is_values : St [] := St.seq (St.ite (Te.or (Te.not (Te.val (E.op1 (Isi .tuple).op (E.var 2)))) (Te.val (E.op2 Ne_.op (E.op1 Len.op (E.var 2)) (E.var 0)))) (St.ret (E.bl false)) (St.nil)) vq2_is_values
def vb_is_values : St [] := St.seq (St.expr (E.call F_check_bonds (arCons (E.var 0) (arCons (E.var 1) (arNil))))) vq3_is_values
def F_is_values : Fn := Fn.mk' 3 7 [] vb_is_values (fun _ h => nomatch h)
theorem m_is_values : F_is_values.m = f_is_values := by
  delta f_is_values b_is_values q1_is_values q2_is_values q3_is_values
  simp only [← m_is_integer, ← m_check_bonds]
  rfl
theorem wf_is_values {us : List U} {Q : U → VEnv → Prop} {Z : VX → VEnv → Prop} : wF (F_is_values.v us) Q Z ↔ us.length = 3 ∧ wS (vb_is_values.v (us.map some ++ List.replicate (7 - 3) none)) ⟨fun σ => Q (.fz .non) (outsV 3 [] σ), fun u σ => Q u (outsV 3 [] σ), fun _ => False, fun _ => False, fun x σ => Z x (outsV 3 [] σ)⟩ := f_mk 3 7 [] vb_is_values (fun _ h => nomatch h) us
@[simp] theorem ios_is_values : F_is_values.ios = [] := rfl
def vb_are_linked : St [] := St.ret (E.op1 All_.op (E.lc (It.rng2 (E.int 1) (E.op1 Len.op (E.var 0))) (Tgt.name 1) (Te.yes) (E.op2 Eq_.op (E.op2 Idx.op (E.op2 Idx.op (E.var 0) (E.op2 Sub (E.var 1) (E.int 1))) (E.int 1)) (E.op2 Idx.op (E.op2 Idx.op (E.var 0) (E.var 1)) (E.int 0)))))
def F_are_linked : Fn := Fn.mk' 1 2 [] vb_are_linked (fun _ h => nomatch h)
theorem m_are_linked : F_are_linked.m = f_are_linked := by
  delta f_are_linked b_are_linked 
  rfl
theorem wf_are_linked {us : List U} {Q : U → VEnv → Prop} {Z : VX → VEnv → Prop} : wF (F_are_linked.v us) Q Z ↔ us.length = 1 ∧ wS (vb_are_linked.v (us.map some ++ List.replicate (2 - 1) none)) ⟨fun σ => Q (.fz .non) (outsV 1 [] σ), fun u σ => Q u (outsV 1 [] σ), fun _ => False, fun _ => False, fun x σ => Z x (outsV 1 [] σ)⟩ := f_mk 1 2 [] vb_are_linked (fun _ h => nomatch h) us
@[simp] theorem ios_are_linked : F_are_linked.ios = [] := rfl
abbrev vq1_is_closed : St [] := St.ret (E.op2 Lt_.op (E.op1 Sum_.op (E.lc (It.any (E.var 0)) (Tgt.name 1) (Te.yes) (E.op2 Idx.op (E.var 1) (E.int 2)))) (E.int 0))
def vb_is_closed : St [] := St.seq (St.ite (Te.or (Te.not (Te.tru (E.var 0))) (Te.or (Te.not (Te.val (E.call F_are_linked (arCons (E.var 0) (arNil))))) (Te.val (E.op2 Ne_.op (E.op2 Idx.op (E.op2 Idx.op (E.var 0) (E.op2 Sub (E.op1 Len.op (E.var 0)) (E.int 1))) (E.int 1)) (E.op2 Idx.op (E.op2 Idx.op (E.var 0) (E.int 0)) (E.int 0)))))) (St.ret (E.bl false)) (St.nil)) vq1_is_closed
def F_is_closed : Fn := Fn.mk' 1 2 [] vb_is_closed (fun _ h => nomatch h)
theorem m_is_closed : F_is_closed.m = f_is_closed := by
  delta f_is_closed b_is_closed q1_is_closed
  simp only [← m_are_linked]
  rfl
theorem wf_is_closed {us : List U} {Q : U → VEnv → Prop} {Z : VX → VEnv → Prop} : wF (F_is_closed.v us) Q Z ↔ us.length = 1 ∧ wS (vb_is_closed.v (us.map some ++ List.replicate (2 - 1) none)) ⟨fun σ => Q (.fz .non) (outsV 1 [] σ), fun u σ => Q u (outsV 1 [] σ), fun _ => False, fun _ => False, fun x σ => Z x (outsV 1 [] σ)⟩ := f_mk 1 2 [] vb_is_closed (fun _ h => nomatch h) us
@[simp] theorem ios_is_closed : F_is_closed.ios = [] := rfl
abbrev vq1__bonds_at : St [] := St.expr (E.app 2 (E.op2 Idx.op (E.var 0) (E.var 3)))
abbrev vw1__bonds_at : St [] := St.seq (St.ite (Te.or (Te.not (Te.val (E.call F_is_integer (arCons (E.var 3) (arNil))))) (Te.not (Te.val (E.chain Le_ Lt_ (E.int 0) (E.var 3) (E.op1 Len.op (E.var 0)))))) (St.ret (E.non)) (St.nil)) vq1__bonds_at
abbrev vq2__bonds_at : St [] := St.ret (E.mov 2)
abbrev vq3__bonds_at : St [] := St.seq (St.for' (It.any (E.var 1)) (Tgt.name 3) vw1__bonds_at (fun _ h => nomatch h)) vq2__bonds_at
abbrev vq4__bonds_at : St [] := St.seq (St.asg' (E.lst (arNil)) (Tgt.name 2) (fun _ h => nomatch h)) vq3__bonds_at
def vb__bonds_at : St [] := St.seq (St.ite (Te.not (Te.val (E.op1 (Isi .list).op (E.var 1)))) (St.ret (E.non)) (St.nil)) vq4__bonds_at
def F__bonds_at : Fn := Fn.mk' 2 4 [] vb__bonds_at (fun _ h => nomatch h)
theorem m__bonds_at : F__bonds_at.m = f__bonds_at := by
  delta f__bonds_at b__bonds_at q1__bonds_at w1__bonds_at q2__bonds_at q3__bonds_at q4__bonds_at
  simp only [← m_is_integer]
  rfl
theorem wf__bonds_at {us : List U} {Q : U → VEnv → Prop} {Z : VX → VEnv → Prop} : wF (F__bonds_at.v us) Q Z ↔ us.length = 2 ∧ wS (vb__bonds_at.v (us.map some ++ List.replicate (4 - 2) none)) ⟨fun σ => Q (.fz .non) (outsV 2 [] σ), fun u σ => Q u (outsV 2 [] σ), fun _ => False, fun _ => False, fun x σ => Z x (outsV 2 [] σ)⟩ := f_mk 2 4 [] vb__bonds_at (fun _ h => nomatch h) us
@[simp] theorem ios__bonds_at : F__bonds_at.ios = [] := rfl
abbrev vq1_is_bond_ring : St [] := St.ret (E.and (E.op2 NotN_.op (E.var 3) (E.non)) (E.call F_is_closed (arCons (E.var 3) (arNil))))
abbrev vq2_is_bond_ring : St [] := St.seq (St.asg' (E.call F__bonds_at (arCons (E.var 1) (arCons (E.var 2) (arNil)))) (Tgt.name 3) (fun _ h => nomatch h)) vq1_is_bond_ring
def vb_is_bond_ring : St [] := St.seq (St.expr (E.call F_check_bonds (arCons (E.var 0) (arCons (E.var 1) (arNil))))) vq2_is_bond_ring
def F_is_bond_ring : Fn := Fn.mk' 3 4 [] vb_is_bond_ring (fun _ h => nomatch h)
theorem m_is_bond_ring : F_is_bond_ring.m = f_is_bond_ring := by
  delta f_is_bond_ring b_is_bond_ring q1_is_bond_ring q2_is_bond_ring
  simp only [← m_check_bonds, ← m_is_closed, ← m__bonds_at]
  rfl
theorem wf_is_bond_ring {us : List U} {Q : U → VEnv → Prop} {Z : VX → VEnv → Prop} : wF (F_is_bond_ring.v us) Q Z ↔ us.length = 3 ∧ wS (vb_is_bond_ring.v (us.map some ++ List.replicate (4 - 3) none)) ⟨fun σ => Q (.fz .non) (outsV 3 [] σ), fun u σ => Q u (outsV 3 [] σ), fun _ => False, fun _ => False, fun x σ => Z x (outsV 3 [] σ)⟩ := f_mk 3 4 [] vb_is_bond_ring (fun _ h => nomatch h) us
@[simp] theorem ios_is_bond_ring : F_is_bond_ring.ios = [] := rfl
abbrev vq1_is_bond_path : St [] := St.ret (E.and (E.call F_are_linked (arCons (E.var 5) (arNil))) (E.and (E.op2 Eq_.op (E.op2 Idx.op (E.op2 Idx.op (E.var 5) (E.int 0)) (E.int 0)) (E.var 2)) (E.op2 Eq_.op (E.op2 Idx.op (E.op2 Idx.op (E.var 5) (E.op2 Sub (E.op1 Len.op (E.var 5)) (E.int 1))) (E.int 1)) (E.var 3))))
abbrev vq2_is_bond_path : St [] := St.seq (St.ite (Te.not (Te.tru (E.var 5))) (St.ret (E.op2 Eq_.op (E.var 2) (E.var 3))) (St.nil)) vq1_is_bond_path
abbrev vq3_is_bond_path : St [] := St.seq (St.ite (Te.val (E.op2 IsN_.op (E.var 5) (E.non))) (St.ret (E.bl false)) (St.nil)) vq2_is_bond_path
abbrev vq4_is_bond_path : St [] := St.seq (St.asg' (E.call F__bonds_at (arCons (E.var 1) (arCons (E.var 4) (arNil)))) (Tgt.name 5) (fun _ h => nomatch h)) vq3_is_bond_path
def vb_is_bond_path : St [] := St.seq (St.expr (E.call F_check_bonds (arCons (E.var 0) (arCons (E.var 1) (arNil))))) vq4_is_bond_path
def F_is_bond_path : Fn := Fn.mk' 5 6 [] vb_is_bond_path (fun _ h => nomatch h)
theorem m_is_bond_path : F_is_bond_path.m = f_is_bond_path := by
  delta f_is_bond_path b_is_bond_path q1_is_bond_path q2_is_bond_path q3_is_bond_path q4_is_bond_path
  simp only [← m_check_bonds, ← m_are_linked, ← m__bonds_at]
  rfl
theorem wf_is_bond_path {us : List U} {Q : U → VEnv → Prop} {Z : VX → VEnv → Prop} : wF (F_is_bond_path.v us) Q Z ↔ us.length = 5 ∧ wS (vb_is_bond_path.v (us.map some ++ List.replicate (6 - 5) none)) ⟨fun σ => Q (.fz .non) (outsV 5 [] σ), fun u σ => Q u (outsV 5 [] σ), fun _ => False, fun _ => False, fun x σ => Z x (outsV 5 [] σ)⟩ := f_mk 5 6 [] vb_is_bond_path (fun _ h => nomatch h) us
@[simp] theorem ios_is_bond_path : F_is_bond_path.ios = [] := rfl
abbrev vw1_is_shore : St [] := St.ite (Te.or (Te.not (Te.val (E.call F_is_integer (arCons (E.var 6) (arNil))))) (Te.or (Te.not (Te.val (E.chain Le_ Lt_ (E.int 0) (E.var 6) (E.var 0)))) (Te.and (Te.val (E.op2 Gt_.op (E.var 5) (E.int 0))) (Te.val (E.op2 Ge_.op (E.op2 Idx.op (E.var 4) (E.op2 Sub (E.var 5) (E.int 1))) (E.var 6)))))) (St.ret (E.bl false)) (St.nil)
abbrev vq1_is_shore : St [] := St.ret (E.not (E.op1 Any_.op (E.lc (It.any (E.var 1)) (Tgt.tup (Tgts.cons (Tgt.name 7) (Tgts.cons (Tgt.name 8) (Tgts.cons (Tgt.name 9) (Tgts.nil))))) (Te.yes) (E.and (E.op2 In_.op (E.var 7) (E.var 4)) (E.op2 NotIn_.op (E.var 8) (E.var 4))))))
abbrev vq2_is_shore : St [] := St.seq (St.ite (Te.or (Te.val (E.op2 NotIn_.op (E.var 2) (E.var 4))) (Te.val (E.op2 In_.op (E.var 3) (E.var 4)))) (St.ret (E.bl false)) (St.nil)) vq1_is_shore
abbrev vq3_is_shore : St [] := St.seq (St.for' (It.enum (E.var 4)) (Tgt.tup (Tgts.cons (Tgt.name 5) (Tgts.cons (Tgt.name 6) (Tgts.nil)))) vw1_is_shore (fun _ h => nomatch h)) vq2_is_shore
abbrev vq4_is_shore : St [] := St.seq (St.ite (Te.not (Te.val (E.op1 (Isi .list).op (E.var 4)))) (St.ret (E.bl false)) (St.nil)) vq3_is_shore
def vb_is_shore : St [] := St.seq (St.expr (E.call F_check_bonds (arCons (E.var 0) (arCons (E.var 1) (arNil))))) vq4_is_shore
def F_is_shore : Fn := Fn.mk' 5 10 [] vb_is_shore (fun _ h => nomatch h)
theorem m_is_shore : F_is_shore.m = f_is_shore := by
  delta f_is_shore b_is_shore w1_is_shore q1_is_shore q2_is_shore q3_is_shore q4_is_shore
  simp only [← m_is_integer, ← m_check_bonds]
  rfl
theorem wf_is_shore {us : List U} {Q : U → VEnv → Prop} {Z : VX → VEnv → Prop} : wF (F_is_shore.v us) Q Z ↔ us.length = 5 ∧ wS (vb_is_shore.v (us.map some ++ List.replicate (10 - 5) none)) ⟨fun σ => Q (.fz .non) (outsV 5 [] σ), fun u σ => Q u (outsV 5 [] σ), fun _ => False, fun _ => False, fun x σ => Z x (outsV 5 [] σ)⟩ := f_mk 5 10 [] vb_is_shore (fun _ h => nomatch h) us
@[simp] theorem ios_is_shore : F_is_shore.ios = [] := rfl
abbrev vq1__law_numbers : St [] := St.ite (Te.val (E.op2 Ge_.op (E.var 5) (E.op2 Pow (E.int 10) (E.int 18)))) (St.expr (E.app 3 (E.op2 Sub (E.var 5) (E.op2 Pow (E.int 10) (E.int 18))))) (St.expr (E.app 3 (E.op2 Add (E.var 7) (E.op2 Mul (E.var 6) (E.op2 Sub (E.op2 Pow (E.int 2) (E.int 61)) (E.int 1))))))
abbrev vq2__law_numbers : St [] := St.seq (St.asg' (E.op2 Mod (E.op1 Int_.op (E.op2 Add (E.op2 Add (E.op2 Mul (E.var 6) (E.var 6)) (E.op2 Mul (E.var 5) (E.int 3935559000370003845))) (E.var 4))) (E.op2 Sub (E.op2 Pow (E.int 2) (E.int 61)) (E.int 1))) (Tgt.name 7) (fun _ h => nomatch h)) vq1__law_numbers
abbrev vq3__law_numbers : St [] := St.seq (St.asg' (E.op2 Mod (E.op1 Int_.op (E.op2 Add (E.op2 Mul (E.var 5) (E.int 6364136223846793005)) (E.op2 Mul (E.op2 Add (E.var 4) (E.int 1)) (E.int 1442695040888963407)))) (E.op2 Sub (E.op2 Pow (E.int 2) (E.int 61)) (E.int 1))) (Tgt.name 6) (fun _ h => nomatch h)) vq2__law_numbers
abbrev vq4__law_numbers : St [] := St.seq (St.ite (Te.val (E.op2 Lt_.op (E.var 4) (E.op1 Len.op (E.var 0)))) (St.asg' (E.op1 Int_.op (E.op2 Idx.op (E.var 0) (E.var 4))) (Tgt.name 5) (fun _ h => nomatch h)) (St.nil)) vq3__law_numbers
abbrev vw1__law_numbers : St [] := St.seq (St.asg' (E.op2 Add (E.var 2) (E.op2 Mul (E.int 31) (E.var 4))) (Tgt.name 5) (fun _ h => nomatch h)) vq4__law_numbers
abbrev vq5__law_numbers : St [] := St.ret (E.mov 3)
abbrev vq6__law_numbers : St [] := St.seq (St.for' (It.rng1 (E.var 1)) (Tgt.name 4) vw1__law_numbers (fun _ h => nomatch h)) vq5__law_numbers
abbrev vq7__law_numbers : St [] := St.seq (St.asg' (E.lst (arNil)) (Tgt.name 3) (fun _ h => nomatch h)) vq6__law_numbers
def vb__law_numbers : St [] := St.seq (St.asg' (E.op1 Sum_.op (E.lc (It.any (E.sl (E.var 0) Ix.no (Ix.of (E.int 63)))) (Tgt.name 5) (Te.yes) (E.op2 Mod (E.op1 Int_.op (E.var 5)) (E.int 1000003)))) (Tgt.name 2) (fun _ h => nomatch h)) vq7__law_numbers
def F__law_numbers : Fn := Fn.mk' 2 8 [] vb__law_numbers (fun _ h => nomatch h)
theorem m__law_numbers : F__law_numbers.m = f__law_numbers := by
  delta f__law_numbers b__law_numbers q1__law_numbers q2__law_numbers q3__law_numbers q4__law_numbers w1__law_numbers q5__law_numbers q6__law_numbers q7__law_numbers
  rfl
theorem wf__law_numbers {us : List U} {Q : U → VEnv → Prop} {Z : VX → VEnv → Prop} : wF (F__law_numbers.v us) Q Z ↔ us.length = 2 ∧ wS (vb__law_numbers.v (us.map some ++ List.replicate (8 - 2) none)) ⟨fun σ => Q (.fz .non) (outsV 2 [] σ), fun u σ => Q u (outsV 2 [] σ), fun _ => False, fun _ => False, fun x σ => Z x (outsV 2 [] σ)⟩ := f_mk 2 8 [] vb__law_numbers (fun _ h => nomatch h) us
@[simp] theorem ios__law_numbers : F__law_numbers.ios = [] := rfl
abbrev vq1__law_digits : St [] := St.asg' (E.op2 Fdiv (E.var 0) (E.var 3)) (Tgt.name 0) (fun _ h => nomatch h)
abbrev vw1__law_digits : St [] := St.seq (St.expr (E.app 2 (E.op2 Mod (E.op1 Int_.op (E.var 0)) (E.var 3)))) vq1__law_digits
abbrev vq2__law_digits : St [] := St.ret (E.mov 2)
abbrev vq3__law_digits : St [] := St.seq (St.for' (It.any (E.var 1)) (Tgt.name 3) vw1__law_digits (fun _ h => nomatch h)) vq2__law_digits
def vb__law_digits : St [] := St.seq (St.asg' (E.lst (arNil)) (Tgt.name 2) (fun _ h => nomatch h)) vq3__law_digits
def F__law_digits : Fn := Fn.mk' 2 4 [] vb__law_digits (fun _ h => nomatch h)
theorem m__law_digits : F__law_digits.m = f__law_digits := by
  delta f__law_digits b__law_digits q1__law_digits w1__law_digits q2__law_digits q3__law_digits
  rfl
theorem wf__law_digits {us : List U} {Q : U → VEnv → Prop} {Z : VX → VEnv → Prop} : wF (F__law_digits.v us) Q Z ↔ us.length = 2 ∧ wS (vb__law_digits.v (us.map some ++ List.replicate (4 - 2) none)) ⟨fun σ => Q (.fz .non) (outsV 2 [] σ), fun u σ => Q u (outsV 2 [] σ), fun _ => False, fun _ => False, fun x σ => Z x (outsV 2 [] σ)⟩ := f_mk 2 4 [] vb__law_digits (fun _ h => nomatch h) us
@[simp] theorem ios__law_digits : F__law_digits.ios = [] := rfl
def vb__law_equal : St [] := St.ret (E.and (E.op2 Eq_.op (E.var 0) (E.var 1)) (E.op2 Eq_.op (E.op1 Repr_.op (E.var 0)) (E.op1 Repr_.op (E.var 1))))
def F__law_equal : Fn := Fn.mk' 2 2 [] vb__law_equal (fun _ h => nomatch h)
theorem m__law_equal : F__law_equal.m = f__law_equal := by
  delta f__law_equal b__law_equal 
  rfl
theorem wf__law_equal {us : List U} {Q : U → VEnv → Prop} {Z : VX → VEnv → Prop} : wF (F__law_equal.v us) Q Z ↔ us.length = 2 ∧ wS (vb__law_equal.v (us.map some ++ List.replicate (2 - 2) none)) ⟨fun σ => Q (.fz .non) (outsV 2 [] σ), fun u σ => Q u (outsV 2 [] σ), fun _ => False, fun _ => False, fun x σ => Z x (outsV 2 [] σ)⟩ := f_mk 2 2 [] vb__law_equal (fun _ h => nomatch h) us
@[simp] theorem ios__law_equal : F__law_equal.ios = [] := rfl
def vb__law_whole : St [] := St.ret (E.and (E.op1 (Isi .int).op (E.var 0)) (E.not (E.op1 (Isi .bool).op (E.var 0))))
def F__law_whole : Fn := Fn.mk' 1 1 [] vb__law_whole (fun _ h => nomatch h)
theorem m__law_whole : F__law_whole.m = f__law_whole := by
  delta f__law_whole b__law_whole 
  rfl
theorem wf__law_whole {us : List U} {Q : U → VEnv → Prop} {Z : VX → VEnv → Prop} : wF (F__law_whole.v us) Q Z ↔ us.length = 1 ∧ wS (vb__law_whole.v (us.map some ++ List.replicate (1 - 1) none)) ⟨fun σ => Q (.fz .non) (outsV 1 [] σ), fun u σ => Q u (outsV 1 [] σ), fun _ => False, fun _ => False, fun x σ => Z x (outsV 1 [] σ)⟩ := f_mk 1 1 [] vb__law_whole (fun _ h => nomatch h) us
@[simp] theorem ios__law_whole : F__law_whole.ios = [] := rfl
abbrev vq1__law_values : St [] := St.ret (E.sl (E.var 2) Ix.no (Ix.of (E.var 1)))
abbrev vq2__law_values : St [] := St.seq (St.asg' (E.op2 Add (E.var 2) (E.call F__law_digits (arCons (E.op2 Idx.op (E.var 0) (E.int 4)) (arCons (E.lst (arCons (E.int 100) (arCons (E.int 100) (arCons (E.int 100) (arCons (E.int 100) (arCons (E.int 100) (arCons (E.int 100) (arCons (E.int 100) (arCons (E.int 100) (arCons (E.int 100) (arCons (E.op2 Pow (E.int 10) (E.int 30)) (arNil)))))))))))) (arNil))))) (Tgt.name 2) (fun _ h => nomatch h)) vq1__law_values
def vb__law_values : St [] := St.seq (St.asg' (E.call F__law_digits (arCons (E.op2 Idx.op (E.var 0) (E.int 3)) (arCons (E.lst (arCons (E.int 100) (arCons (E.int 100) (arCons (E.int 100) (arCons (E.int 100) (arCons (E.int 100) (arCons (E.int 100) (arCons (E.int 100) (arCons (E.int 100) (arCons (E.int 100) (arCons (E.int 100) (arNil)))))))))))) (arNil)))) (Tgt.name 2) (fun _ h => nomatch h)) vq2__law_values
def F__law_values : Fn := Fn.mk' 2 3 [] vb__law_values (fun _ h => nomatch h)
theorem m__law_values : F__law_values.m = f__law_values := by
  delta f__law_values b__law_values q1__law_values q2__law_values
  simp only [← m__law_digits]
  rfl
theorem wf__law_values {us : List U} {Q : U → VEnv → Prop} {Z : VX → VEnv → Prop} : wF (F__law_values.v us) Q Z ↔ us.length = 2 ∧ wS (vb__law_values.v (us.map some ++ List.replicate (3 - 2) none)) ⟨fun σ => Q (.fz .non) (outsV 2 [] σ), fun u σ => Q u (outsV 2 [] σ), fun _ => False, fun _ => False, fun x σ => Z x (outsV 2 [] σ)⟩ := f_mk 2 3 [] vb__law_values (fun _ h => nomatch h) us
@[simp] theorem ios__law_values : F__law_values.ios = [] := rfl
abbrev vq1__law_bonds : St [] := St.expr (E.app 5 (E.tup (arCons (E.var 9) (arCons (E.var 10) (arCons (E.var 11) (arNil))))))
abbrev vq2__law_bonds : St [] := St.seq (St.ite (Te.val (E.op2 Lt_.op (E.var 3) (E.int 4))) (St.asg' (E.op2 Add (E.op2 Sub (E.op2 Idx.op (E.var 4) (E.var 10)) (E.op2 Idx.op (E.var 4) (E.var 9))) (E.op2 Idx.op (E.lst (arCons (E.int 0) (arCons (E.int 0) (arCons (E.op2 Idx.op (E.var 8) (E.int 3)) (arCons (E.int 1) (arNil)))))) (E.op2 Idx.op (E.var 8) (E.int 2)))) (Tgt.name 11) (fun _ h => nomatch h)) (St.ite (Te.val (E.op2 Lt_.op (E.var 3) (E.int 7))) (St.asg' (E.op2 Sub (E.op2 Idx.op (E.var 8) (E.int 3)) (E.int 3)) (Tgt.name 11) (fun _ h => nomatch h)) (St.asg' (E.op2 Sub (E.op2 Idx.op (E.var 8) (E.int 4)) (E.op2 Idx.op (E.lst (arCons (E.op2 Pow (E.int 10) (E.int 29)) (arCons (E.int 0) (arCons (E.int 3) (arCons (E.op2 Pow (E.int 10) (E.int 30)) (arNil)))))) (E.op2 Idx.op (E.var 8) (E.int 2)))) (Tgt.name 11) (fun _ h => nomatch h)))) vq1__law_bonds
abbrev vq3__law_bonds : St [] := St.seq (St.par (arCons (E.op2 Idx.op (E.var 8) (E.int 0)) (arCons (E.op2 Idx.op (E.var 8) (E.int 1)) (arNil))) (Tgts.cons (Tgt.name 9) (Tgts.cons (Tgt.name 10) (Tgts.nil))) (fun _ h => nomatch h)) vq2__law_bonds
abbrev vq4__law_bonds : St [] := St.seq (St.asg' (E.call F__law_digits (arCons (E.var 7) (arCons (E.lst (arCons (E.var 1) (arCons (E.var 1) (arCons (E.int 4) (arCons (E.int 13) (arCons (E.op2 Pow (E.int 10) (E.int 30)) (arNil))))))) (arNil)))) (Tgt.name 8) (fun _ h => nomatch h)) vq3__law_bonds
abbrev vw1__law_bonds : St [] := St.seq (St.asg' (E.op2 Add (E.op2 Fdiv (E.op2 Idx.op (E.var 0) (E.op2 Add (E.int 8) (E.op2 Mod (E.var 6) (E.int 40)))) (E.op2 Add (E.int 1) (E.op2 Fdiv (E.var 6) (E.int 40)))) (E.op2 Mul (E.op2 Fdiv (E.var 6) (E.int 40)) (E.int 2654435761))) (Tgt.name 7) (fun _ h => nomatch h)) vq4__law_bonds
abbrev vq5__law_bonds : St [] := St.ret (E.mov 5)
abbrev vq6__law_bonds : St [] := St.seq (St.for' (It.rng1 (E.var 2)) (Tgt.name 6) vw1__law_bonds (fun _ h => nomatch h)) vq5__law_bonds
abbrev vq7__law_bonds : St [] := St.seq (St.asg' (E.lst (arNil)) (Tgt.name 5) (fun _ h => nomatch h)) vq6__law_bonds
def vb__law_bonds : St [] := St.seq (St.asg' (E.call F__law_values (arCons (E.var 0) (arCons (E.var 1) (arNil)))) (Tgt.name 4) (fun _ h => nomatch h)) vq7__law_bonds
def F__law_bonds : Fn := Fn.mk' 4 12 [] vb__law_bonds (fun _ h => nomatch h)
theorem m__law_bonds : F__law_bonds.m = f__law_bonds := by
  delta f__law_bonds b__law_bonds q1__law_bonds q2__law_bonds q3__law_bonds q4__law_bonds w1__law_bonds q5__law_bonds q6__law_bonds q7__law_bonds
  simp only [← m__law_digits, ← m__law_values]
  rfl
theorem wf__law_bonds {us : List U} {Q : U → VEnv → Prop} {Z : VX → VEnv → Prop} : wF (F__law_bonds.v us) Q Z ↔ us.length = 4 ∧ wS (vb__law_bonds.v (us.map some ++ List.replicate (12 - 4) none)) ⟨fun σ => Q (.fz .non) (outsV 4 [] σ), fun u σ => Q u (outsV 4 [] σ), fun _ => False, fun _ => False, fun x σ => Z x (outsV 4 [] σ)⟩ := f_mk 4 12 [] vb__law_bonds (fun _ h => nomatch h) us
@[simp] theorem ios__law_bonds : F__law_bonds.ios = [] := rfl
abbrev vq1__law_kept : St [] := St.ret (E.op1 All_.op (E.lc (It.any (E.var 1)) (Tgt.tup (Tgts.cons (Tgt.name 4) (Tgts.cons (Tgt.name 5) (Tgts.cons (Tgt.name 6) (Tgts.nil))))) (Te.yes) (E.op2 Le_.op (E.op2 Idx.op (E.var 2) (E.var 5)) (E.op2 Add (E.op2 Idx.op (E.var 2) (E.var 4)) (E.var 6)))))
def vb__law_kept : St [] := St.seq (St.ite (Te.or (Te.not (Te.val (E.op1 (Isi .tuple).op (E.var 2)))) (Te.or (Te.val (E.op2 Ne_.op (E.op1 Len.op (E.var 2)) (E.var 0))) (Te.not (Te.val (E.op1 All_.op (E.lc (It.any (E.var 2)) (Tgt.name 3) (Te.yes) (E.call F__law_whole (arCons (E.var 3) (arNil))))))))) (St.ret (E.bl false)) (St.nil)) vq1__law_kept
def F__law_kept : Fn := Fn.mk' 3 7 [] vb__law_kept (fun _ h => nomatch h)
theorem m__law_kept : F__law_kept.m = f__law_kept := by
  delta f__law_kept b__law_kept q1__law_kept
  simp only [← m__law_whole]
  rfl
theorem wf__law_kept {us : List U} {Q : U → VEnv → Prop} {Z : VX → VEnv → Prop} : wF (F__law_kept.v us) Q Z ↔ us.length = 3 ∧ wS (vb__law_kept.v (us.map some ++ List.replicate (7 - 3) none)) ⟨fun σ => Q (.fz .non) (outsV 3 [] σ), fun u σ => Q u (outsV 3 [] σ), fun _ => False, fun _ => False, fun x σ => Z x (outsV 3 [] σ)⟩ := f_mk 3 7 [] vb__law_kept (fun _ h => nomatch h) us
@[simp] theorem ios__law_kept : F__law_kept.ios = [] := rfl
abbrev vw1__law_is_greatest : St [] := St.ite (Te.and (Te.tru (E.op2 Idx.op (E.bor 2) (E.var 4))) (Te.val (E.op2 Eq_.op (E.op2 Idx.op (E.var 1) (E.var 5)) (E.op2 Add (E.op2 Idx.op (E.var 1) (E.var 4)) (E.var 6))))) (St.setI 2 (E.var 5) (E.bl true)) (St.nil)
abbrev vw2__law_is_greatest : St [] := St.for' (It.any (E.var 0)) (Tgt.tup (Tgts.cons (Tgt.name 4) (Tgts.cons (Tgt.name 5) (Tgts.cons (Tgt.name 6) (Tgts.nil))))) vw1__law_is_greatest (fun _ h => nomatch h)
abbrev vq1__law_is_greatest : St [] := St.ret (E.and (E.op1 All_.op (E.bor 2)) (E.op2 Le_.op (E.op1 MaxL.op (E.var 1)) (E.int 0)))
abbrev vq2__law_is_greatest : St [] := St.seq (St.for' (It.rng1 (E.op1 Len.op (E.var 1))) (Tgt.name 3) vw2__law_is_greatest (fun _ h => nomatch h)) vq1__law_is_greatest
def vb__law_is_greatest : St [] := St.seq (St.asg' (E.lc (It.any (E.var 1)) (Tgt.name 7) (Te.yes) (E.op2 Eq_.op (E.var 7) (E.int 0))) (Tgt.name 2) (fun _ h => nomatch h)) vq2__law_is_greatest
def F__law_is_greatest : Fn := Fn.mk' 2 8 [] vb__law_is_greatest (fun _ h => nomatch h)
theorem m__law_is_greatest : F__law_is_greatest.m = f__law_is_greatest := by
  delta f__law_is_greatest b__law_is_greatest w1__law_is_greatest w2__law_is_greatest q1__law_is_greatest q2__law_is_greatest
  rfl
theorem wf__law_is_greatest {us : List U} {Q : U → VEnv → Prop} {Z : VX → VEnv → Prop} : wF (F__law_is_greatest.v us) Q Z ↔ us.length = 2 ∧ wS (vb__law_is_greatest.v (us.map some ++ List.replicate (8 - 2) none)) ⟨fun σ => Q (.fz .non) (outsV 2 [] σ), fun u σ => Q u (outsV 2 [] σ), fun _ => False, fun _ => False, fun x σ => Z x (outsV 2 [] σ)⟩ := f_mk 2 8 [] vb__law_is_greatest (fun _ h => nomatch h) us
@[simp] theorem ios__law_is_greatest : F__law_is_greatest.ios = [] := rfl
abbrev vw1__law_is_wheel : St [] := St.ite (Te.or (Te.not (Te.val (E.call F__law_whole (arCons (E.var 2) (arNil))))) (Te.not (Te.val (E.chain Le_ Lt_ (E.int 0) (E.var 2) (E.op1 Len.op (E.var 0)))))) (St.ret (E.bl false)) (St.nil)
abbrev vw2__law_is_wheel : St [] := St.ite (Te.val (E.op2 Ne_.op (E.op2 Idx.op (E.op2 Idx.op (E.var 0) (E.op2 Idx.op (E.var 1) (E.op2 Sub (E.var 3) (E.int 1)))) (E.int 1)) (E.op2 Idx.op (E.op2 Idx.op (E.var 0) (E.op2 Idx.op (E.var 1) (E.var 3))) (E.int 0)))) (St.ret (E.bl false)) (St.nil)
abbrev vq1__law_is_wheel : St [] := St.ret (E.op2 Lt_.op (E.op1 Sum_.op (E.lc (It.any (E.var 1)) (Tgt.name 2) (Te.yes) (E.op2 Idx.op (E.op2 Idx.op (E.var 0) (E.var 2)) (E.int 2)))) (E.int 0))
abbrev vq2__law_is_wheel : St [] := St.seq (St.for' (It.rng1 (E.op1 Len.op (E.var 1))) (Tgt.name 3) vw2__law_is_wheel (fun _ h => nomatch h)) vq1__law_is_wheel
abbrev vq3__law_is_wheel : St [] := St.seq (St.for' (It.any (E.var 1)) (Tgt.name 2) vw1__law_is_wheel (fun _ h => nomatch h)) vq2__law_is_wheel
def vb__law_is_wheel : St [] := St.seq (St.ite (Te.or (Te.not (Te.val (E.op1 (Isi .list).op (E.var 1)))) (Te.not (Te.tru (E.var 1)))) (St.ret (E.bl false)) (St.nil)) vq3__law_is_wheel
def F__law_is_wheel : Fn := Fn.mk' 2 4 [] vb__law_is_wheel (fun _ h => nomatch h)
theorem m__law_is_wheel : F__law_is_wheel.m = f__law_is_wheel := by
  delta f__law_is_wheel b__law_is_wheel w1__law_is_wheel w2__law_is_wheel q1__law_is_wheel q2__law_is_wheel q3__law_is_wheel
  simp only [← m__law_whole]
  rfl
theorem wf__law_is_wheel {us : List U} {Q : U → VEnv → Prop} {Z : VX → VEnv → Prop} : wF (F__law_is_wheel.v us) Q Z ↔ us.length = 2 ∧ wS (vb__law_is_wheel.v (us.map some ++ List.replicate (4 - 2) none)) ⟨fun σ => Q (.fz .non) (outsV 2 [] σ), fun u σ => Q u (outsV 2 [] σ), fun _ => False, fun _ => False, fun x σ => Z x (outsV 2 [] σ)⟩ := f_mk 2 4 [] vb__law_is_wheel (fun _ h => nomatch h) us
@[simp] theorem ios__law_is_wheel : F__law_is_wheel.ios = [] := rfl
abbrev vw1__law_ask_values : St [] := St.ite (Te.not (Te.val (E.call F__law_equal (arCons (E.call F_is_values (arCons (E.var 0) (arCons (E.op1 List_ (E.var 1)) (arCons (E.var 3) (arNil))))) (arCons (E.call F__law_kept (arCons (E.var 0) (arCons (E.var 1) (arCons (E.var 3) (arNil))))) (arNil)))))) (St.ret (E.bl false)) (St.nil)
abbrev vq1__law_ask_values : St [] := St.ret (E.bl true)
def vb__law_ask_values : St [] := St.seq (St.for' (It.any (E.var 2)) (Tgt.name 3) vw1__law_ask_values (fun _ h => nomatch h)) vq1__law_ask_values
def F__law_ask_values : Fn := Fn.mk' 3 4 [] vb__law_ask_values (fun _ h => nomatch h)
theorem m__law_ask_values : F__law_ask_values.m = f__law_ask_values := by
  delta f__law_ask_values b__law_ask_values w1__law_ask_values q1__law_ask_values
  simp only [← m_is_values, ← m__law_equal, ← m__law_kept]
  rfl
theorem wf__law_ask_values {us : List U} {Q : U → VEnv → Prop} {Z : VX → VEnv → Prop} : wF (F__law_ask_values.v us) Q Z ↔ us.length = 3 ∧ wS (vb__law_ask_values.v (us.map some ++ List.replicate (4 - 3) none)) ⟨fun σ => Q (.fz .non) (outsV 3 [] σ), fun u σ => Q u (outsV 3 [] σ), fun _ => False, fun _ => False, fun x σ => Z x (outsV 3 [] σ)⟩ := f_mk 3 4 [] vb__law_ask_values (fun _ h => nomatch h) us
@[simp] theorem ios__law_ask_values : F__law_ask_values.ios = [] := rfl
abbrev vq1__law_ask_wheels : St [] := St.ite (Te.or (Te.not (Te.val (E.call F__law_equal (arCons (E.call F_is_bond_ring (arCons (E.var 0) (arCons (E.op1 List_ (E.var 1)) (arCons (E.var 4) (arNil))))) (arCons (E.var 5) (arNil)))))) (Te.val (E.op2 Ne_.op (E.var 4) (E.var 3)))) (St.ret (E.bl false)) (St.nil)
abbrev vq2__law_ask_wheels : St [] := St.seq (St.asg' (E.call F__law_is_wheel (arCons (E.var 1) (arCons (E.var 3) (arNil)))) (Tgt.name 5) (fun _ h => nomatch h)) vq1__law_ask_wheels
abbrev vq3__law_ask_wheels : St [] := St.seq (St.ite (Te.val (E.op1 (Isi .list).op (E.var 3))) (St.asg' (E.op1 List_ (E.var 3)) (Tgt.name 4) (fun _ h => nomatch h)) (St.nil)) vq2__law_ask_wheels
abbrev vw1__law_ask_wheels : St [] := St.seq (St.asg' (E.var 3) (Tgt.name 4) (fun _ h => nomatch h)) vq3__law_ask_wheels
abbrev vq4__law_ask_wheels : St [] := St.ret (E.bl true)
def vb__law_ask_wheels : St [] := St.seq (St.for' (It.any (E.var 2)) (Tgt.name 3) vw1__law_ask_wheels (fun _ h => nomatch h)) vq4__law_ask_wheels
def F__law_ask_wheels : Fn := Fn.mk' 3 6 [] vb__law_ask_wheels (fun _ h => nomatch h)
theorem m__law_ask_wheels : F__law_ask_wheels.m = f__law_ask_wheels := by
  delta f__law_ask_wheels b__law_ask_wheels q1__law_ask_wheels q2__law_ask_wheels q3__law_ask_wheels w1__law_ask_wheels q4__law_ask_wheels
  simp only [← m_is_bond_ring, ← m__law_equal, ← m__law_is_wheel]
  rfl
theorem wf__law_ask_wheels {us : List U} {Q : U → VEnv → Prop} {Z : VX → VEnv → Prop} : wF (F__law_ask_wheels.v us) Q Z ↔ us.length = 3 ∧ wS (vb__law_ask_wheels.v (us.map some ++ List.replicate (6 - 3) none)) ⟨fun σ => Q (.fz .non) (outsV 3 [] σ), fun u σ => Q u (outsV 3 [] σ), fun _ => False, fun _ => False, fun x σ => Z x (outsV 3 [] σ)⟩ := f_mk 3 6 [] vb__law_ask_wheels (fun _ h => nomatch h) us
@[simp] theorem ios__law_ask_wheels : F__law_ask_wheels.ios = [] := rfl
abbrev vq1__law_value_papers : St [] := St.ret (E.op2 Add (E.var 5) (E.lst (arCons (E.op2 Add (E.op2 Add (E.var 3) (E.tup (arCons (E.op1 Str_.op (E.var 2)) (arNil)))) (E.var 4)) (arCons (E.non) (arCons (E.int 7) (arCons (E.tup (arNil)) (arCons (E.str ['v', 'a', 'l', 'u', 'e', 's']) (arCons (E.op2 Add (E.op2 Add (E.var 3) (E.tup (arCons (E.bl false) (arNil)))) (E.var 4)) (arNil)))))))))
abbrev vq2__law_value_papers : St [] := St.seq (St.asg' (E.op2 Add (E.var 5) (E.lst (arCons (E.op2 Add (E.var 0) (E.tup (arCons (E.int 0) (arNil)))) (arCons (E.op2 Add (E.var 3) (E.var 4)) (arCons (E.op2 Add (E.op2 Add (E.var 3) (E.tup (arCons (E.non) (arNil)))) (E.var 4)) (arCons (E.op2 Add (E.op2 Add (E.var 3) (E.tup (arCons (E.bl true) (arNil)))) (E.var 4)) (arNil))))))) (Tgt.name 5) (fun _ h => nomatch h)) vq1__law_value_papers
abbrev vq3__law_value_papers : St [] := St.seq (St.asg' (E.op2 Add (E.var 5) (E.lst (arCons (E.op2 Add (E.op2 Add (E.var 3) (E.tup (arCons (E.op2 Add (E.op2 Idx.op (E.var 0) (E.var 2)) (E.int 1)) (arNil)))) (E.var 4)) (arCons (E.op2 Add (E.op2 Add (E.var 3) (E.tup (arCons (E.op2 Sub (E.op2 Idx.op (E.var 0) (E.var 2)) (E.int 1)) (arNil)))) (E.var 4)) (arCons (E.op1 List_ (E.var 0)) (arNil)))))) (Tgt.name 5) (fun _ h => nomatch h)) vq2__law_value_papers
abbrev vq4__law_value_papers : St [] := St.seq (St.asg' (E.lst (arCons (E.var 0) (arCons (E.op1 Tuple_ (E.lc (It.any (E.var 0)) (Tgt.name 6) (Te.yes) (E.op2 Add (E.var 6) (E.int 7)))) (arCons (E.op1 Tuple_ (E.lc (It.any (E.var 0)) (Tgt.name 6) (Te.yes) (E.op2 Sub (E.var 6) (E.op2 Pow (E.int 10) (E.int 31))))) (arNil))))) (Tgt.name 5) (fun _ h => nomatch h)) vq3__law_value_papers
abbrev vq5__law_value_papers : St [] := St.seq (St.par (arCons (E.sl (E.var 0) Ix.no (Ix.of (E.var 2))) (arCons (E.sl (E.var 0) (Ix.of (E.op2 Add (E.var 2) (E.int 1))) Ix.no) (arNil))) (Tgts.cons (Tgt.name 3) (Tgts.cons (Tgt.name 4) (Tgts.nil))) (fun _ h => nomatch h)) vq4__law_value_papers
def vb__law_value_papers : St [] := St.seq (St.asg' (E.op2 Mod (E.op1 Int_.op (E.var 1)) (E.op1 Len.op (E.var 0))) (Tgt.name 2) (fun _ h => nomatch h)) vq5__law_value_papers
def F__law_value_papers : Fn := Fn.mk' 2 7 [] vb__law_value_papers (fun _ h => nomatch h)
theorem m__law_value_papers : F__law_value_papers.m = f__law_value_papers := by
  delta f__law_value_papers b__law_value_papers q1__law_value_papers q2__law_value_papers q3__law_value_papers q4__law_value_papers q5__law_value_papers
  rfl
theorem wf__law_value_papers {us : List U} {Q : U → VEnv → Prop} {Z : VX → VEnv → Prop} : wF (F__law_value_papers.v us) Q Z ↔ us.length = 2 ∧ wS (vb__law_value_papers.v (us.map some ++ List.replicate (7 - 2) none)) ⟨fun σ => Q (.fz .non) (outsV 2 [] σ), fun u σ => Q u (outsV 2 [] σ), fun _ => False, fun _ => False, fun x σ => Z x (outsV 2 [] σ)⟩ := f_mk 2 7 [] vb__law_value_papers (fun _ h => nomatch h) us
@[simp] theorem ios__law_value_papers : F__law_value_papers.ios = [] := rfl
abbrev vq1__law_wheel_papers : St [] := St.ret (E.op2 Add (E.var 4) (E.lst (arCons (E.lc (It.any (E.var 0)) (Tgt.name 5) (Te.yes) (E.ite (Te.val (E.op2 In_.op (E.var 5) (E.tup (arCons (E.int 0) (arCons (E.int 1) (arNil)))))) (E.op2 Eq_.op (E.var 5) (E.int 1)) (E.var 5))) (arCons (E.lst (arCons (E.var 0) (arNil))) (arCons (E.op1 Rng_ (E.var 1)) (arCons (E.lst (arCons (E.int 0) (arNil))) (arCons (E.str ['r', 'i', 'n', 'g']) (arNil))))))))
abbrev vq2__law_wheel_papers : St [] := St.seq (St.asg' (E.op2 Add (E.var 4) (E.lst (arCons (E.op2 Add (E.op2 Add (E.sl (E.var 0) Ix.no (Ix.of (E.var 3))) (E.lst (arCons (E.op2 Mod (E.op1 Int_.op (E.op2 Fdiv (E.var 2) (E.int 20))) (E.op2 Add (E.var 1) (E.int 1))) (arNil)))) (E.sl (E.var 0) (Ix.of (E.op2 Add (E.var 3) (E.int 1))) Ix.no)) (arCons (E.op1 Tuple_ (E.var 0)) (arCons (E.lst (arNil)) (arCons (E.non) (arCons (E.int 5) (arNil)))))))) (Tgt.name 4) (fun _ h => nomatch h)) vq1__law_wheel_papers
abbrev vq3__law_wheel_papers : St [] := St.seq (St.asg' (E.op2 Add (E.var 4) (E.lst (arCons (E.op1 Rev_ (E.var 0)) (arCons (E.op2 Add (E.var 0) (E.lst (arCons (E.var 1) (arNil)))) (arCons (E.op2 Add (E.var 0) (E.lst (arCons (E.op1 Neg (E.int 1)) (arNil)))) (arCons (E.op2 Add (E.var 0) (E.lst (arCons (E.non) (arNil)))) (arCons (E.op2 Add (E.sl (E.var 0) Ix.no (Ix.of (E.var 3))) (E.lst (arCons (E.op1 Str_.op (E.var 3)) (arNil)))) (arNil)))))))) (Tgt.name 4) (fun _ h => nomatch h)) vq2__law_wheel_papers
abbrev vq4__law_wheel_papers : St [] := St.seq (St.asg' (E.lst (arCons (E.var 0) (arCons (E.op2 Add (E.sl (E.var 0) (Ix.of (E.var 3)) Ix.no) (E.sl (E.var 0) Ix.no (Ix.of (E.var 3)))) (arCons (E.op2 Add (E.var 0) (E.var 0)) (arCons (E.sl (E.var 0) (Ix.of (E.int 1)) Ix.no) (arCons (E.op2 Add (E.sl (E.var 0) Ix.no (Ix.of (E.var 3))) (E.sl (E.var 0) (Ix.of (E.op2 Add (E.var 3) (E.int 1))) Ix.no)) (arNil))))))) (Tgt.name 4) (fun _ h => nomatch h)) vq3__law_wheel_papers
def vb__law_wheel_papers : St [] := St.seq (St.asg' (E.op2 Mod (E.op1 Int_.op (E.var 2)) (E.op1 Len.op (E.var 0))) (Tgt.name 3) (fun _ h => nomatch h)) vq4__law_wheel_papers
def F__law_wheel_papers : Fn := Fn.mk' 3 6 [] vb__law_wheel_papers (fun _ h => nomatch h)
theorem m__law_wheel_papers : F__law_wheel_papers.m = f__law_wheel_papers := by
  delta f__law_wheel_papers b__law_wheel_papers q1__law_wheel_papers q2__law_wheel_papers q3__law_wheel_papers q4__law_wheel_papers
  rfl
theorem wf__law_wheel_papers {us : List U} {Q : U → VEnv → Prop} {Z : VX → VEnv → Prop} : wF (F__law_wheel_papers.v us) Q Z ↔ us.length = 3 ∧ wS (vb__law_wheel_papers.v (us.map some ++ List.replicate (6 - 3) none)) ⟨fun σ => Q (.fz .non) (outsV 3 [] σ), fun u σ => Q u (outsV 3 [] σ), fun _ => False, fun _ => False, fun x σ => Z x (outsV 3 [] σ)⟩ := f_mk 3 6 [] vb__law_wheel_papers (fun _ h => nomatch h) us
@[simp] theorem ios__law_wheel_papers : F__law_wheel_papers.ios = [] := rfl
abbrev vt1__law_refusal : St [] := St.ite (Te.val (E.op2 Eq_.op (E.var 0) (E.int 0))) (St.expr (E.call F_solve (arCons (E.var 1) (arCons (E.var 2) (arNil))))) (St.ite (Te.val (E.op2 Eq_.op (E.var 0) (E.int 1))) (St.expr (E.call F_most_apart (arCons (E.var 1) (arCons (E.var 2) (arCons (E.int 0) (arCons (E.int 0) (arNil))))))) (St.ite (Te.val (E.op2 Eq_.op (E.var 0) (E.int 2))) (St.expr (E.call F_is_values (arCons (E.var 1) (arCons (E.var 2) (arCons (E.tup (arCons (E.int 0) (arNil))) (arNil)))))) (St.ite (Te.val (E.op2 Eq_.op (E.var 0) (E.int 3))) (St.expr (E.call F_is_bond_ring (arCons (E.var 1) (arCons (E.var 2) (arCons (E.lst (arCons (E.int 0) (arNil))) (arNil)))))) (St.ite (Te.val (E.op2 Eq_.op (E.var 0) (E.int 4))) (St.expr (E.call F_is_bond_path (arCons (E.var 1) (arCons (E.var 2) (arCons (E.int 0) (arCons (E.int 0) (arCons (E.lst (arNil)) (arNil)))))))) (St.expr (E.call F_is_shore (arCons (E.var 1) (arCons (E.var 2) (arCons (E.int 0) (arCons (E.int 0) (arCons (E.lst (arCons (E.int 0) (arNil))) (arNil))))))))))))
abbrev vq1__law_refusal : St [] := St.ret (E.mov 3)
abbrev vq2__law_refusal : St [] := St.seq (St.tryA 4 3 vt1__law_refusal ex_HearsayError (XA.seq (XA.ite (XT.val (XE.isE is_BadBond)) (XA.app (XE.tup (XL.cons (XE.str ['b', 'o', 'n', 'd']) (XL.cons (XE.fld "place" fl_place) (XL.nil))))) (XA.nil)) (XA.seq (XA.ite (XT.val (XE.isE is_TooMany)) (XA.app (XE.tup (XL.cons (XE.str ['m', 'a', 'n', 'y']) (XL.cons (XE.fld "limit" fl_limit) (XL.nil))))) (XA.nil)) (XA.ite (XT.val (XE.isE is_Contradiction)) (XA.app (XE.tup (XL.cons (XE.str ['r', 'i', 'n', 'g']) (XL.nil)))) (XA.nil))))) vq1__law_refusal
def vb__law_refusal : St [] := St.seq (St.asg' (E.lst (arNil)) (Tgt.name 3) (fun _ h => nomatch h)) vq2__law_refusal
def F__law_refusal : Fn := Fn.mk' 3 5 [] vb__law_refusal (fun _ h => nomatch h)
theorem m__law_refusal : F__law_refusal.m = f__law_refusal := by
  delta f__law_refusal b__law_refusal t1__law_refusal q1__law_refusal q2__law_refusal q3__law_refusal q4__law_refusal
  simp only [← m_solve, ← m_most_apart, ← m_is_values, ← m_is_bond_ring, ← m_is_bond_path, ← m_is_shore]
  rfl
theorem wf__law_refusal {us : List U} {Q : U → VEnv → Prop} {Z : VX → VEnv → Prop} : wF (F__law_refusal.v us) Q Z ↔ us.length = 3 ∧ wS (vb__law_refusal.v (us.map some ++ List.replicate (5 - 3) none)) ⟨fun σ => Q (.fz .non) (outsV 3 [] σ), fun u σ => Q u (outsV 3 [] σ), fun _ => False, fun _ => False, fun x σ => Z x (outsV 3 [] σ)⟩ := f_mk 3 5 [] vb__law_refusal (fun _ h => nomatch h) us
@[simp] theorem ios__law_refusal : F__law_refusal.ios = [] := rfl
abbrev vw1__law_ask_refusals : St [] := St.ite (Te.not (Te.val (E.call F__law_equal (arCons (E.call F__law_refusal (arCons (E.var 9) (arCons (E.var 4) (arCons (E.var 10) (arNil))))) (arCons (E.lst (arCons (E.tup (arCons (E.str ['b', 'o', 'n', 'd']) (arCons (E.op1 Neg (E.int 1)) (arNil)))) (arNil))) (arNil)))))) (St.ret (E.bl false)) (St.nil)
abbrev vq1__law_ask_refusals : St [] := St.ite (Te.and (Te.val (E.op2 Lt_.op (E.var 6) (E.int 300))) (Te.not (Te.val (E.call F__law_equal (arCons (E.call F__law_refusal (arCons (E.var 9) (arCons (E.var 0) (arCons (E.op1 List_ (E.var 7)) (arNil))))) (arCons (E.lst (arCons (E.tup (arCons (E.str ['b', 'o', 'n', 'd']) (arCons (E.var 6) (arNil)))) (arNil))) (arNil))))))) (St.ret (E.bl false)) (St.nil)
abbrev vq2__law_ask_refusals : St [] := St.seq (St.ite (Te.not (Te.val (E.call F__law_equal (arCons (E.call F__law_refusal (arCons (E.var 9) (arCons (E.var 0) (arCons (E.op1 List_ (E.var 8)) (arNil))))) (arCons (E.lst (arCons (E.tup (arCons (E.str ['m', 'a', 'n', 'y']) (arCons (E.int 300) (arNil)))) (arNil))) (arNil)))))) (St.ret (E.bl false)) (St.nil)) vq1__law_ask_refusals
abbrev vw2__law_ask_refusals : St [] := St.seq (St.for' (It.any (E.tup (arCons (E.op1 List_ (E.var 1)) (arCons (E.op1 List_ (E.var 7)) (arCons (E.op1 List_ (E.var 8)) (arNil)))))) (Tgt.name 10) vw1__law_ask_refusals (fun _ h => nomatch h)) vq2__law_ask_refusals
abbrev vq3__law_ask_refusals : St [] := St.ret (E.bl true)
abbrev vq4__law_ask_refusals : St [] := St.seq (St.for' (It.rng1 (E.int 6)) (Tgt.name 9) vw2__law_ask_refusals (fun _ h => nomatch h)) vq3__law_ask_refusals
abbrev vq5__law_ask_refusals : St [] := St.seq (St.asg' (E.sl (E.op2 Add (E.var 7) (E.op2 Mul (E.lst (arCons (E.tup (arCons (E.int 0) (arCons (E.int 0) (arCons (E.int 0) (arNil))))) (arNil))) (E.int 301))) Ix.no (Ix.of (E.int 301))) (Tgt.name 8) (fun _ h => nomatch h)) vq4__law_ask_refusals
abbrev vq6__law_ask_refusals : St [] := St.seq (St.asg' (E.sl (E.op2 Add (E.op2 Add (E.op2 Add (E.sl (E.var 1) Ix.no (Ix.of (E.var 6))) (E.lst (arCons (E.op2 Idx.op (E.var 5) (E.op2 Idx.op (E.var 3) (E.int 1))) (arNil)))) (E.sl (E.var 1) (Ix.of (E.var 6)) Ix.no)) (E.lst (arCons (E.non) (arNil)))) Ix.no (Ix.of (E.int 300))) (Tgt.name 7) (fun _ h => nomatch h)) vq5__law_ask_refusals
abbrev vq7__law_ask_refusals : St [] := St.seq (St.asg' (E.op2 Mod (E.op2 Idx.op (E.var 3) (E.int 2)) (E.op2 Add (E.int 1) (E.op1 Len.op (E.var 1)))) (Tgt.name 6) (fun _ h => nomatch h)) vq6__law_ask_refusals
abbrev vq8__law_ask_refusals : St [] := St.seq (St.asg' (E.op2 Add (E.var 5) (E.lst (arCons (E.tup (arCons (E.int 0) (arCons (E.int 0) (arCons (E.bl true) (arNil))))) (arCons (E.tup (arCons (E.str ['0']) (arCons (E.int 0) (arCons (E.int 1) (arNil))))) (arCons (E.tup (arCons (E.int 0) (arCons (E.op2 Add (E.var 0) (E.int 7)) (arCons (E.int 1) (arNil))))) (arNil)))))) (Tgt.name 5) (fun _ h => nomatch h)) vq7__law_ask_refusals
abbrev vq9__law_ask_refusals : St [] := St.seq (St.asg' (E.lst (arCons (E.non) (arCons (E.int 5) (arCons (E.tup (arCons (E.int 0) (arCons (E.int 0) (arNil)))) (arCons (E.tup (arCons (E.int 0) (arCons (E.int 0) (arCons (E.int 0) (arCons (E.int 0) (arNil)))))) (arCons (E.lst (arCons (E.int 0) (arCons (E.int 0) (arCons (E.int 1) (arNil))))) (arCons (E.tup (arCons (E.int 0) (arCons (E.var 0) (arCons (E.int 1) (arNil))))) (arCons (E.tup (arCons (E.op1 Neg (E.int 1)) (arCons (E.int 0) (arCons (E.int 1) (arNil))))) (arCons (E.tup (arCons (E.int 0) (arCons (E.int 0) (arCons (E.non) (arNil))))) (arCons (E.tup (arCons (E.bl false) (arCons (E.int 0) (arCons (E.int 1) (arNil))))) (arNil))))))))))) (Tgt.name 5) (fun _ h => nomatch h)) vq8__law_ask_refusals
abbrev vq10__law_ask_refusals : St [] := St.seq (St.asg' (E.op2 Idx.op (E.lst (arCons (E.int 0) (arCons (E.int 21) (arCons (E.bl true) (arCons (E.non) (arCons (E.str ['3']) (arCons (E.op1 Neg (E.int 1)) (arNil)))))))) (E.op2 Idx.op (E.var 3) (E.int 0))) (Tgt.name 4) (fun _ h => nomatch h)) vq9__law_ask_refusals
def vb__law_ask_refusals : St [] := St.seq (St.asg' (E.call F__law_digits (arCons (E.var 2) (arCons (E.lst (arCons (E.int 6) (arCons (E.int 12) (arCons (E.int 300) (arNil))))) (arNil)))) (Tgt.name 3) (fun _ h => nomatch h)) vq10__law_ask_refusals
def F__law_ask_refusals : Fn := Fn.mk' 3 11 [] vb__law_ask_refusals (fun _ h => nomatch h)
theorem m__law_ask_refusals : F__law_ask_refusals.m = f__law_ask_refusals := by
  delta f__law_ask_refusals b__law_ask_refusals w1__law_ask_refusals q1__law_ask_refusals q2__law_ask_refusals w2__law_ask_refusals q3__law_ask_refusals q4__law_ask_refusals q5__law_ask_refusals q6__law_ask_refusals q7__law_ask_refusals q8__law_ask_refusals q9__law_ask_refusals q10__law_ask_refusals
  simp only [← m__law_digits, ← m__law_equal, ← m__law_refusal]
  rfl
theorem wf__law_ask_refusals {us : List U} {Q : U → VEnv → Prop} {Z : VX → VEnv → Prop} : wF (F__law_ask_refusals.v us) Q Z ↔ us.length = 3 ∧ wS (vb__law_ask_refusals.v (us.map some ++ List.replicate (11 - 3) none)) ⟨fun σ => Q (.fz .non) (outsV 3 [] σ), fun u σ => Q u (outsV 3 [] σ), fun _ => False, fun _ => False, fun x σ => Z x (outsV 3 [] σ)⟩ := f_mk 3 11 [] vb__law_ask_refusals (fun _ h => nomatch h) us
@[simp] theorem ios__law_ask_refusals : F__law_ask_refusals.ios = [] := rfl
abbrev vq1_law : St [] := St.asg' (E.lst (arCons (E.var 3) (arCons (E.op2 Add (E.var 3) (E.int 1)) (arNil)))) (Tgt.name 6) (fun _ h => nomatch h)
abbrev vq2_law : St [] := St.seq (St.asg' (E.op2 Add (E.var 5) (E.lst (arCons (E.tup (arCons (E.var 7) (arCons (E.var 8) (arCons (E.var 9) (arNil))))) (arCons (E.tup (arCons (E.var 8) (arCons (E.var 7) (arCons (E.op2 Sub (E.op1 Neg (E.var 9)) (E.int 1)) (arNil))))) (arNil))))) (Tgt.name 5) (fun _ h => nomatch h)) vq1_law
abbrev vq3_law : St [] := St.seq (St.asg' (E.op2 Mod (E.op1 Int_.op (E.op2 Idx.op (E.var 1) (E.int 6))) (E.op2 Pow (E.int 10) (E.int 20))) (Tgt.name 9) (fun _ h => nomatch h)) vq2_law
abbrev vq4_law : St [] := St.ite (Te.not (Te.val (E.call F__law_ask_wheels (arCons (E.var 2) (arCons (E.var 5) (arCons (E.var 12) (arNil))))))) (St.ret (E.bl false)) (St.nil)
abbrev vq5_law : St [] := St.seq (St.ite (Te.not (Te.val (E.call F__law_ask_values (arCons (E.var 2) (arCons (E.var 5) (arCons (E.call F__law_value_papers (arCons (E.op2 Idx.op (E.var 11) (E.int 1)) (arCons (E.op2 Idx.op (E.var 1) (E.int 7)) (arNil)))) (arNil))))))) (St.ret (E.bl false)) (St.nil)) vq4_law
abbrev vq6_law : St [] := St.ite (Te.and (Te.tru (E.var 6)) (Te.not (Te.val (E.call F__law_ask_wheels (arCons (E.var 2) (arCons (E.var 5) (arCons (E.call F__law_wheel_papers (arCons (E.var 6) (arCons (E.op1 Len.op (E.var 5)) (arCons (E.op2 Idx.op (E.var 1) (E.int 7)) (arNil))))) (arNil)))))))) (St.ret (E.bl false)) (St.nil)
abbrev vq7_law : St [] := St.seq (St.ite (Te.not (Te.val (E.call F__law_ask_wheels (arCons (E.var 2) (arCons (E.var 5) (arCons (E.op2 Add (E.var 12) (E.call F__law_wheel_papers (arCons (E.op2 Idx.op (E.var 11) (E.int 1)) (arCons (E.op1 Len.op (E.var 5)) (arCons (E.op2 Idx.op (E.var 1) (E.int 7)) (arNil)))))) (arNil))))))) (St.ret (E.bl false)) (St.nil)) vq6_law
abbrev vq8_law : St [] := St.ret (E.call F__law_ask_refusals (arCons (E.var 2) (arCons (E.var 5) (arCons (E.op2 Fdiv (E.op2 Idx.op (E.var 1) (E.int 7)) (E.int 8000)) (arNil)))))
abbrev vq9_law : St [] := St.seq (St.ite (Te.not (Te.val (E.call F__law_ask_values (arCons (E.var 2) (arCons (E.var 5) (arCons (E.call F__law_value_papers (arCons (E.var 13) (arCons (E.op2 Idx.op (E.var 1) (E.int 7)) (arNil)))) (arNil))))))) (St.ret (E.bl false)) (St.nil)) vq8_law
abbrev vq10_law : St [] := St.seq (St.asg' (E.op1 Tuple_ (E.call F__law_values (arCons (E.var 1) (arCons (E.var 2) (arNil))))) (Tgt.name 13) (fun _ h => nomatch h)) vq9_law
abbrev vq11_law : St [] := St.seq (St.ite (Te.val (E.op2 Eq_.op (E.op2 Idx.op (E.var 11) (E.int 0)) (E.str ['v', 'a', 'l', 'u', 'e', 's']))) (St.seq (St.ite (Te.or (Te.not (Te.val (E.call F__law_kept (arCons (E.var 2) (arCons (E.var 5) (arCons (E.op2 Idx.op (E.var 11) (E.int 1)) (arNil))))))) (Te.or (Te.not (Te.val (E.call F__law_is_greatest (arCons (E.var 5) (arCons (E.op2 Idx.op (E.var 11) (E.int 1)) (arNil)))))) (Te.tru (E.var 6)))) (St.ret (E.bl false)) (St.nil)) vq5_law) (St.seq (St.ite (Te.or (Te.val (E.op2 Ne_.op (E.op2 Idx.op (E.var 11) (E.int 0)) (E.str ['r', 'i', 'n', 'g']))) (Te.or (Te.not (Te.val (E.call F__law_is_wheel (arCons (E.var 5) (arCons (E.op2 Idx.op (E.var 11) (E.int 1)) (arNil)))))) (Te.and (Te.val (E.op2 Lt_.op (E.var 4) (E.int 4))) (Te.not (Te.tru (E.var 6)))))) (St.ret (E.bl false)) (St.nil)) vq7_law)) vq10_law
abbrev vq12_law : St [] := St.seq (St.asg' (E.op2 Add (E.lst (arCons (E.var 6) (arCons (E.lst (arNil)) (arCons (E.non) (arCons (E.lst (arCons (E.int 0) (arNil))) (arCons (E.op1 Rng_ (E.op1 Len.op (E.var 5))) (arNil))))))) (E.sl (E.lc (It.rng1 (E.op1 Len.op (E.var 5))) (Tgt.name 14) (Te.yes) (E.lst (arCons (E.var 14) (arNil)))) Ix.no (Ix.of (E.int 30)))) (Tgt.name 12) (fun _ h => nomatch h)) vq11_law
abbrev vq13_law : St [] := St.seq (St.ite (Te.or (Te.val (E.op2 Ne_.op (E.var 10) (E.var 5))) (Te.or (Te.not (Te.val (E.op1 (Isi .tuple).op (E.var 11)))) (Te.val (E.op2 Ne_.op (E.op1 Len.op (E.var 11)) (E.int 2))))) (St.ret (E.bl false)) (St.nil)) vq12_law
abbrev vq14_law : St [] := St.seq (St.asg' (E.call F_solve (arCons (E.var 2) (arCons (E.var 10) (arNil)))) (Tgt.name 11) (fun _ h => nomatch h)) vq13_law
abbrev vq15_law : St [] := St.seq (St.asg' (E.op1 List_ (E.var 5)) (Tgt.name 10) (fun _ h => nomatch h)) vq14_law
abbrev vq16_law : St [] := St.seq (St.ite (Te.and (Te.val (E.op2 Eq_.op (E.op2 Mod (E.var 4) (E.int 2)) (E.int 1))) (Te.val (E.op2 Lt_.op (E.var 3) (E.int 299)))) (St.seq (St.unp (E.call F__law_digits (arCons (E.op2 Idx.op (E.var 1) (E.int 5)) (arCons (E.lst (arCons (E.var 2) (arCons (E.var 2) (arNil)))) (arNil)))) (Tgts.cons (Tgt.name 7) (Tgts.cons (Tgt.name 8) (Tgts.nil))) (fun _ h => nomatch h)) vq3_law) (St.nil)) vq15_law
abbrev vq17_law : St [] := St.seq (St.asg' (E.lst (arNil)) (Tgt.name 6) (fun _ h => nomatch h)) vq16_law
abbrev vq18_law : St [] := St.seq (St.ite (Te.val (E.op2 Gt_.op (E.var 3) (E.int 300))) (St.ret (E.call F__law_equal (arCons (E.call F__law_refusal (arCons (E.op2 Mod (E.op1 Int_.op (E.op2 Idx.op (E.var 1) (E.int 5))) (E.int 6)) (arCons (E.var 2) (arCons (E.op2 Add (E.var 5) (E.lst (arCons (E.tup (arCons (E.int 0) (arCons (E.int 0) (arCons (E.int 0) (arNil))))) (arNil)))) (arNil))))) (arCons (E.lst (arCons (E.tup (arCons (E.str ['m', 'a', 'n', 'y']) (arCons (E.int 300) (arNil)))) (arNil))) (arNil))))) (St.nil)) vq17_law
abbrev vq19_law : St [] := St.seq (St.asg' (E.call F__law_bonds (arCons (E.var 1) (arCons (E.var 2) (arCons (E.op2 Min_.op (E.var 3) (E.int 300)) (arCons (E.var 4) (arNil)))))) (Tgt.name 5) (fun _ h => nomatch h)) vq18_law
abbrev vq20_law : St [] := St.seq (St.asg' (E.op2 Mod (E.op1 Int_.op (E.op2 Idx.op (E.var 1) (E.int 2))) (E.int 10)) (Tgt.name 4) (fun _ h => nomatch h)) vq19_law
abbrev vq21_law : St [] := St.seq (St.ite (Te.val (E.op2 Eq_.op (E.op2 Mod (E.op1 Int_.op (E.op2 Fdiv (E.op2 Idx.op (E.var 1) (E.int 1)) (E.int 41))) (E.int 10)) (E.int 1))) (St.asg' (E.op2 Add (E.int 298) (E.op2 Mod (E.var 3) (E.int 4))) (Tgt.name 3) (fun _ h => nomatch h)) (St.nil)) vq20_law
abbrev vq22_law : St [] := St.seq (St.asg' (E.op2 Mod (E.op1 Int_.op (E.op2 Idx.op (E.var 1) (E.int 1))) (E.int 41)) (Tgt.name 3) (fun _ h => nomatch h)) vq21_law
abbrev vq23_law : St [] := St.seq (St.asg' (E.op2 Add (E.int 1) (E.op2 Mod (E.op1 Int_.op (E.op2 Idx.op (E.var 1) (E.int 0))) (E.int 20))) (Tgt.name 2) (fun _ h => nomatch h)) vq22_law
def vb_law : St [] := St.seq (St.asg' (E.call F__law_numbers (arCons (E.var 0) (arCons (E.int 48) (arNil)))) (Tgt.name 1) (fun _ h => nomatch h)) vq23_law
def F_law : Fn := Fn.mk' 1 15 [] vb_law (fun _ h => nomatch h)
theorem m_law : F_law.m = f_law := by
  delta f_law b_law q1_law q2_law q3_law q4_law q5_law q6_law q7_law q8_law q9_law q10_law q11_law q12_law q13_law q14_law q15_law q16_law q17_law q18_law q19_law q20_law q21_law q22_law q23_law
  simp only [← m_solve, ← m__law_numbers, ← m__law_digits, ← m__law_equal, ← m__law_values, ← m__law_bonds, ← m__law_kept, ← m__law_is_greatest, ← m__law_is_wheel, ← m__law_ask_values, ← m__law_ask_wheels, ← m__law_value_papers, ← m__law_wheel_papers, ← m__law_refusal, ← m__law_ask_refusals]
  rfl
theorem wf_law {us : List U} {Q : U → VEnv → Prop} {Z : VX → VEnv → Prop} : wF (F_law.v us) Q Z ↔ us.length = 1 ∧ wS (vb_law.v (us.map some ++ List.replicate (15 - 1) none)) ⟨fun σ => Q (.fz .non) (outsV 1 [] σ), fun u σ => Q u (outsV 1 [] σ), fun _ => False, fun _ => False, fun x σ => Z x (outsV 1 [] σ)⟩ := f_mk 1 15 [] vb_law (fun _ h => nomatch h) us
@[simp] theorem ios_law : F_law.ios = [] := rfl
end
end K37
end

section
set_option autoImplicit false
set_option linter.all false
set_option maxRecDepth 100000
/-! k37: the plain functions of the program: is_integer, _is_bond, check_bonds. -/
namespace K37
open Py
def isI : P → Bool
  | .int _ => true
  | _ => false
theorem is_integer_v {n : Nat} {p : P} (h : p.le n = true) : F_is_integer.v [.fz p] = .ok (.fz (.bl (isI p))) (List.replicate 1 none) := by
  apply vf_ok
  rw [wf_is_integer]
  unfold vb_is_integer
  obtain ⟨t, ht⟩ := ok_le h
  cases p <;> first | (cases ht; done) | simp [isI, isTy, tyP, ub]
/-- all whole numbers -/
theorem ints_lc {n : Nat} {σ : VEnv} {ps : List P} {i : Nat} (h : ps.all (P.le n) = true) (hl : ps.length < LINE) (hi : σ[i]? = some none) :
    lcGoV (Tgt.name i).v (Te.yes (Cx := [])).v (E.call (Cx := []) F_is_integer (arCons (E.var i) arNil)).v [i] ps σ [] = .ok ((ps.map fun p => .bl (isI p)).map .fz) σ := by
  refine lc_fnI _ ps hl fun x hx => ⟨σ.set i (some (.fz x)), rfl, ?_, ?_⟩
  · have hl := (List.getElem?_eq_some_iff.mp hi).1
    have e := is_integer_v (List.all_eq_true.mp h x hx)
    simp [hl, callK, e]
  · obtain ⟨hl, e⟩ := List.getElem?_eq_some_iff.mp hi
    simp only [wipe_cons, wipe_nil, List.set_set]
    rw [← e]; exact List.set_getElem_self hl
def isB (n : Int) : P → Bool
  | .tup [.int a, .int b, .int _] => decide (0 ≤ a) && decide (a < n) && (decide (0 ≤ b) && decide (b < n))
  | _ => false
theorem is_bond_v {n : Int} {p : P} (h : p.le 60 = true) (hz : ∀ ps, p = .tup ps → ps.length < LINE) : F__is_bond.v [.fz (.int n), .fz p] = .ok (.fz (.bl (isB n p))) (List.replicate 2 none) := by
  apply vf_ok
  rw [wf__is_bond]
  unfold vb__is_bond
  obtain ⟨t, ht⟩ := ok_le h
  cases p with
  | tup ps =>
    rw [ple_tup] at h
    have lc := ints_lc (σ := [some (.fz (.int n)), some (.fz (.tup ps)), none]) (i := 2) h (hz ps rfl) rfl
    simp [tyP, isTy, ub, lc]
    have no : ∀ qs : List P, ¬ ((qs.length : Int) = 3) → isB n (.tup qs) = false := fun qs hq => by
      rcases qs with _ | ⟨a, _ | ⟨b, _ | ⟨c, _ | ⟨d, r⟩⟩⟩⟩ <;> first | (exfalso; exact hq rfl) | simp [isB]
    split
    · rename_i hl
      obtain ⟨a, b, c, rfl⟩ : ∃ a b c, ps = [a, b, c] := by
        rcases ps with _ | ⟨a, _ | ⟨b, _ | ⟨c, _ | ⟨d, r⟩⟩⟩⟩ <;> first | exact ⟨_, _, _, rfl⟩ | (exfalso; simp at hl; done) | (exfalso; simp at hl; omega)
      split
      · rename_i hx
        obtain ⟨x, hx, hi⟩ := hx
        cases a <;> first | rfl | skip
        cases b <;> first | rfl | skip
        cases c <;> first | rfl | skip
        simp at hx
        rcases hx with rfl | rfl | rfl <;> cases hi
      · rename_i hx
        have hI : ∀ x, x ∈ [a, b, c] → ∃ i, x = .int i := fun x hm => by
          cases x <;> first | exact ⟨_, rfl⟩ | exact absurd ⟨_, hm, rfl⟩ hx
        obtain ⟨a, rfl⟩ := hI a (by simp)
        obtain ⟨b, rfl⟩ := hI b (by simp)
        obtain ⟨c, rfl⟩ := hI c (by simp)
        unfold lzV
        simp [isB, ub, atI, ix]
        by_cases h1 : 0 ≤ a <;> by_cases h2 : a < n <;> by_cases h3 : 0 ≤ b <;> simp [h1, h2, h3] <;> omega
    · rename_i hl
      exact no ps hl
  | _ => first | (cases ht; done) | (simp [isB, isTy, tyP, ub])
end K37
end

section
set_option autoImplicit false
set_option linter.all false
set_option maxRecDepth 100000
/-! k37: check_bonds. -/
namespace K37
open Py
abbrev o1 : VEnv := [none]
abbrev o2 : VEnv := [none, none]
abbrev o3 : VEnv := [none, none, none]
def xBad (k : Int) : VX := ⟨"BadBond", some [("place", .int k)]⟩
def xMany : VX := ⟨"TooMany", some [("limit", .int 300)]⟩
def isC : P → Bool
  | .int n => decide (1 ≤ n) && decide (n ≤ 20)
  | _ => false
/-- the list of bonds: trees that are not too deep -/
structure Bs (ps : List P) : Prop where
  le : ∀ p, p ∈ ps → p.le 50 = true
  sz : ∀ p, p ∈ ps → ∀ qs, p = .tup qs → qs.length < LINE
theorem check_count {c : P} {ps : List P} (hc : c.le 50 = true) (h : isC c = false) : F_check_bonds.v [.fz c, .fz (.lst ps)] = .exc (xBad (-1)) o2 := by
  apply vf_exc
  rw [wf_check_bonds]
  unfold vb_check_bonds
  have e := is_integer_v hc
  cases c with
  | int n =>
    simp [e, isI, ub, LINE]
    by_cases h1 : 1 ≤ n <;> by_cases h2 : n ≤ 20 <;> simp [h1, h2, xBad]
    · simp [isC, h1, h2] at h
    · omega
  | _ => simp [e, isI, ub, xBad, LINE]
theorem check_many {c : P} {ps : List P} (hc : isC c = true) (h : 300 < ps.length) : F_check_bonds.v [.fz c, .fz (.lst ps)] = .exc xMany o2 := by
  apply vf_exc
  rw [wf_check_bonds]
  unfold vb_check_bonds
  obtain ⟨n, rfl⟩ : ∃ n, c = .int n := by cases c <;> first | exact ⟨_, rfl⟩ | cases hc
  have e := is_integer_v (n := 1) (p := .int n) (by simp)
  simp [isC] at hc
  simp [e, isI, ub, hc]
  unfold lzV
  simp [ub, xMany, LINE]
  omega
section
variable {n : Int} {ps : List P} (hc : 1 ≤ n ∧ n ≤ 20) (hb : Bs ps) (hl : ps.length ≤ 300)
include hc hb hl
/-- the loop -/
theorem check_loop {K : Kv} {a b : Option U} (h1 : (∀ p, p ∈ ps → isB n p = true) → ∀ a b, K.nx [some (.fz (.int n)), some (.fz (.lst ps)), a, b])
    (h2 : ∀ (i : Nat) p, ps[i]? = some p → isB n p = false → (∀ j q, j < i → ps[j]? = some q → isB n q = true) → ∀ a b, K.ex (xBad i) [some (.fz (.int n)), some (.fz (.lst ps)), a, b]) :
    wS (vq1_check_bonds.v [some (.fz (.int n)), some (.fz (.lst ps)), a, b]) K := by
  simp
  refine forV_by (fun i σ => (∀ j q, j < i → ps[j]? = some q → isB n q = true) ∧ ∃ a b, σ = [some (.fz (.int n)), some (.fz (.lst ps)), a, b]) ?_ ?_ ⟨fun j q hj => absurd hj (by omega), _, _, rfl⟩
  · rintro i p σ hp ⟨hi, a, b, rfl⟩
    rw [prs_get, Option.map_eq_some_iff] at hp
    obtain ⟨q, hq, rfl⟩ := hp
    rw [Nat.zero_add]
    have hm := List.mem_of_getElem? hq
    refine ⟨_, rfl, ?_⟩
    have e := is_bond_v (n := n) (p := q) (le_up (by decide) (hb.le q hm)) (hb.sz q hm)
    simp [callK, e]
    by_cases hg : isB n q = true
    · simp [hg]
      intro j r hj hr
      rcases Nat.lt_succ_iff_lt_or_eq.mp hj with hj | rfl
      · exact hi j r hj hr
      · rw [hq] at hr; cases hr; exact hg
    · have hg : isB n q = false := by simpa using hg
      simp [hg, LINE]
      exact h2 i q hq hg hi _ _
  · rintro σ ⟨hi, a, b, rfl⟩
    rw [prs_len] at hi
    refine h1 (fun p hp => ?_) _ _
    obtain ⟨j, hj⟩ := List.mem_iff_getElem?.mp hp
    exact hi j p (List.getElem?_eq_some_iff.mp hj).1 hj
theorem check_start {Q : U → VEnv → Prop} {Z : VX → VEnv → Prop} (h1 : (∀ p, p ∈ ps → isB n p = true) → Q (.fz .non) o2)
    (h2 : ∀ (i : Nat) p, ps[i]? = some p → isB n p = false → (∀ j q, j < i → ps[j]? = some q → isB n q = true) → Z (xBad i) o2) : wF (F_check_bonds.v [.fz (.int n), .fz (.lst ps)]) Q Z := by
  rw [wf_check_bonds]
  unfold vb_check_bonds
  have e := is_integer_v (n := 1) (p := .int n) (by simp)
  simp [e, isI, ub, hc]
  unfold lzV
  simp [ub, show ¬ ((300 : Int) < ps.length) by omega]
  unfold lzV
  refine check_loop hc hb hl ?_ ?_
  · exact fun h _ _ => by simpa using h1 h
  · exact fun i p hp hg hi _ _ => by simpa using h2 i p hp hg hi
theorem check_ok (h : ∀ p, p ∈ ps → isB n p = true) : F_check_bonds.v [.fz (.int n), .fz (.lst ps)] = .ok (.fz .non) o2 := by
  refine vf_ok (check_start hc hb hl (fun _ => ⟨rfl, rfl⟩) fun i p hp hg _ => ?_)
  rw [h p (List.mem_of_getElem? hp)] at hg; cases hg
theorem check_bad {k : Nat} {p : P} (hk : ps[k]? = some p) (hp : isB n p = false) (h : ∀ j q, j < k → ps[j]? = some q → isB n q = true) : F_check_bonds.v [.fz (.int n), .fz (.lst ps)] = .exc (xBad k) o2 := by
  refine vf_exc (check_start hc hb hl (fun h' => ?_) fun i q hq hg hi => ?_)
  · rw [h' p (List.mem_of_getElem? hk)] at hp; cases hp
  · rcases Nat.lt_trichotomy i k with z | z | z
    · rw [h i q z hq] at hg; cases hg
    · rw [z]; exact ⟨rfl, rfl⟩
    · rw [hi k p z hk] at hp; cases hp
end
end K37
end

section
set_option autoImplicit false
set_option linter.all false
set_option maxRecDepth 100000
/-! k37: _lower as a fold. -/
namespace K37
open Py
structure Bd where
  lo : Nat
  hi : Nat
  rm : Int
deriving DecidableEq
def bP (b : Bd) : P := .tup [.int b.lo, .int b.hi, .int b.rm]
def vP : Option Int → P
  | none => .non
  | some i => .int i
structure Ls where
  vs : List (Option Int)
  cb : List Int
  low : Int
/-- one bond -/
def lstep (s : Ls) (x : Bd × Nat) : Ls := match s.vs[x.1.lo]?, s.vs[x.1.hi]? with
  | some (some a), some none => ⟨s.vs.set x.1.hi (some (a + x.1.rm)), s.cb.set x.1.hi x.2, x.1.hi⟩
  | some (some a), some (some v) => if a + x.1.rm < v then ⟨s.vs.set x.1.hi (some (a + x.1.rm)), s.cb.set x.1.hi x.2, x.1.hi⟩ else s
  | _, _ => s
def lowerF (bs : List Bd) (vs : List (Option Int)) (cb : List Int) : Ls := bs.zipIdx.foldl lstep ⟨vs, cb, -1⟩
theorem lstep_len (s : Ls) (x : Bd × Nat) : (lstep s x).vs.length = s.vs.length ∧ (lstep s x).cb.length = s.cb.length := by
  unfold lstep
  split
  · simp
  · split <;> simp
  · simp
theorem lower_v {n : Nat} {bs : List Bd} {vs : List (Option Int)} {cb : List Int} (hb : ∀ b, b ∈ bs → b.lo < n ∧ b.hi < n) (hv : vs.length = n) (hc : cb.length = n) :
    F__lower.v [.fz (.lst (bs.map bP)), .own (vs.map vP), .own (cb.map .int)] = .ok (.fz (.int (lowerF bs vs cb).low)) [none, some (.own ((lowerF bs vs cb).vs.map vP)), some (.own ((lowerF bs vs cb).cb.map .int))] := by
  apply vf_ok
  rw [wf__lower]
  unfold vb__lower
  simp
  unfold lzV
  simp [prs_map]
  refine for_foldI (Y := Option U × Option U × Option U × Option U × Option U) (fun s => s.vs.length = n ∧ s.cb.length = n) _ (fun s y => [some (.fz (.lst (bs.map bP))), some (.own (s.vs.map vP)), some (.own (s.cb.map .int)), some (.fz (.int s.low)), y.1, y.2.1, y.2.2.1, y.2.2.2.1, y.2.2.2.2]) lstep _ ?_ ?_ ⟨vs, cb, -1⟩ (none, none, none, none, none) ⟨hv, hc⟩ ?_
  · intro s x _ h
    have := lstep_len s x
    exact ⟨this.1.trans h.1, this.2.trans h.2⟩
  · rintro s ⟨y4, y5, y6, y7, y8⟩ ⟨b, k⟩ hx ⟨h1, h2⟩
    have hm := hb b (mem_zip hx)
    refine ⟨_, rfl, ?_⟩
    simp [bP]
    unfold lzV
    obtain ⟨u, hlo⟩ : ∃ u, s.vs[b.lo]? = some u := ⟨_, List.getElem?_eq_getElem (by omega)⟩
    obtain ⟨v, hhi⟩ : ∃ u, s.vs[b.hi]? = some u := ⟨_, List.getElem?_eq_getElem (by omega)⟩
    have i1 : ix s.vs.length (b.hi : Int) = some b.hi := ix_nat (by omega)
    have i2 : ix s.cb.length (b.hi : Int) = some b.hi := ix_nat (by omega)
    have fin : ∀ (r : Int), lstep s (b, k) = ⟨s.vs.set b.hi (some r), s.cb.set b.hi k, b.hi⟩ → wS (vq2__lower.v [some (.fz (.lst (bs.map bP))), some (.own ((s.vs.map vP).set b.hi (.int r))), some (.own (s.cb.map .int)), some (.fz (.int s.low)), some (.fz (.int k)), some (.fz (bP b)), some (.fz (.int b.lo)), some (.fz (.int b.hi)), some (.fz (.int b.rm))]) ⟨fun σ' => ∃ y' : Option U × Option U × Option U × Option U × Option U, σ' = [some (.fz (.lst (bs.map bP))), some (.own ((lstep s (b, k)).vs.map vP)), some (.own ((lstep s (b, k)).cb.map .int)), some (.fz (.int (lstep s (b, k)).low)), y'.1, y'.2.1, y'.2.2.1, y'.2.2.2.1, y'.2.2.2.2], fun _ _ => False, fun _ => False, fun σ' => ∃ y' : Option U × Option U × Option U × Option U × Option U, σ' = [some (.fz (.lst (bs.map bP))), some (.own ((lstep s (b, k)).vs.map vP)), some (.own ((lstep s (b, k)).cb.map .int)), some (.fz (.int (lstep s (b, k)).low)), y'.1, y'.2.1, y'.2.2.1, y'.2.2.2.1, y'.2.2.2.2], fun _ _ => False⟩ := by
      intro r e
      simp [i2]
      unfold lzV
      simp [e, List.map_set, vP]
    cases u with
    | none =>
      have e : lstep s (b, k) = s := by unfold lstep; simp only [hlo]
      simp [hlo, vP, ub, e]
    | some a =>
      cases v with
      | none =>
        have e : lstep s (b, k) = ⟨s.vs.set b.hi (some (a + b.rm)), s.cb.set b.hi k, b.hi⟩ := by unfold lstep; simp only [hlo, hhi]
        simp [hlo, hhi, vP, ub, i1]
        unfold lzV
        have := fin _ e
        simpa [bP] using this
      | some v =>
        by_cases hlt : a + b.rm < v
        · have e : lstep s (b, k) = ⟨s.vs.set b.hi (some (a + b.rm)), s.cb.set b.hi k, b.hi⟩ := by unfold lstep; simp only [hlo, hhi, if_pos hlt]
          simp [hlo, hhi, vP, ub, i1, hlt]
          unfold lzV
          have := fin _ e
          simpa [bP] using this
        · have e : lstep s (b, k) = s := by unfold lstep; simp only [hlo, hhi, if_neg hlt]
          simp [hlo, hhi, vP, ub, e, hlt]
  · rintro ⟨y4, y5, y6, y7, y8⟩
    unfold lzV
    simp [outsV, lowerF]
    rfl
end K37
end

section
set_option autoImplicit false
set_option linter.all false
/-! k37: relaxing, in plain terms: values and origins as functions. -/
namespace K37
structure M where
  v : Nat → Int
  c : Nat → Option Nat
  low : Option Nat
def fup {α : Type} (f : Nat → α) (i : Nat) (a : α) : Nat → α := fun j => if j = i then a else f j
@[simp] theorem fup_at {α : Type} (f : Nat → α) (i : Nat) (a : α) : fup f i a i = a := by simp [fup]
theorem fup_ne {α : Type} (f : Nat → α) {i j : Nat} (a : α) (h : j ≠ i) : fup f i a j = f j := by simp [fup, h]
def mstep (s : M) (x : Bd × Nat) : M := if s.v x.1.lo + x.1.rm < s.v x.1.hi then ⟨fup s.v x.1.hi (s.v x.1.lo + x.1.rm), fup s.c x.1.hi (some x.2), some x.1.hi⟩ else s
/-- one round -/
def mrnd (bs : List Bd) (s : M) : M := bs.zipIdx.foldl mstep { s with low := none }
def m0 : M := ⟨fun _ => 0, fun _ => none, none⟩
/-- behind k rounds -/
def mk (bs : List Bd) : Nat → M
  | 0 => m0
  | k + 1 => mrnd bs (mk bs k)
/-- values that keep the bonds -/
def Keeps (bs : List Bd) (u : Nat → Int) : Prop := ∀ b ∈ bs, u b.hi ≤ u b.lo + b.rm
section
variable {bs : List Bd}
/-- what a step keeps, a round keeps -/
theorem rnd_ind (I : M → Prop) (hl : ∀ s, I s → I { s with low := none }) (hs : ∀ s x, x ∈ bs.zipIdx → I s → I (mstep s x)) {s : M} (h : I s) : I (mrnd bs s) := by
  have key : ∀ (xs : List (Bd × Nat)) (s : M), (∀ x ∈ xs, x ∈ bs.zipIdx) → I s → I (xs.foldl mstep s) := by
    intro xs
    induction xs with
    | nil => intro s _ h; exact h
    | cons x xs ih => intro s hx h; exact ih _ (fun y hy => hx y (by simp [hy])) (hs s x (hx x (by simp)) h)
  exact key _ _ (fun _ h => h) (hl s h)
theorem mk_ind (I : M → Prop) (h0 : I m0) (hl : ∀ s, I s → I { s with low := none }) (hs : ∀ s x, x ∈ bs.zipIdx → I s → I (mstep s x)) : ∀ k, I (mk bs k)
  | 0 => h0
  | k + 1 => rnd_ind I hl hs (mk_ind I h0 hl hs k)
theorem zip_get {b : Bd} {k : Nat} (h : (b, k) ∈ bs.zipIdx) : bs[k]? = some b := by
  obtain ⟨j, hj⟩ := List.mem_iff_getElem?.mp h
  rw [List.getElem?_zipIdx, Option.map_eq_some_iff] at hj
  obtain ⟨y, h1, h2⟩ := hj
  cases h2
  simpa using h1
/-- the values stay above any values that keep the bonds, none above 0 -/
theorem above {u : Nat → Int} (hu : Keeps bs u) (h0 : ∀ i, u i ≤ 0) (k : Nat) : ∀ i, u i ≤ (mk bs k).v i := by
  refine mk_ind (fun s => ∀ i, u i ≤ s.v i) h0 (fun s h => h) (fun s x hx h i => ?_) k
  unfold mstep
  split
  · by_cases e : i = x.1.hi
    · subst e
      dsimp only
      rw [fup_at]
      have := hu x.1 (List.mem_of_getElem? (zip_get (k := x.2) hx))
      have := h x.1.lo
      omega
    · dsimp only; rw [fup_ne _ _ e]; exact h i
  · exact h i
/-- the values never rise -/
theorem step_le (s : M) (x : Bd × Nat) (i : Nat) : (mstep s x).v i ≤ s.v i := by
  unfold mstep
  split
  · by_cases e : i = x.1.hi
    · subst e; dsimp only; rw [fup_at]; omega
    · dsimp only; rw [fup_ne _ _ e]; exact Int.le_refl _
  · exact Int.le_refl _
theorem fold_le : ∀ (xs : List (Bd × Nat)) (s : M) (i : Nat), (xs.foldl mstep s).v i ≤ s.v i
  | [], s, i => Int.le_refl _
  | x :: xs, s, i => Int.le_trans (fold_le xs (mstep s x) i) (step_le s x i)
theorem rnd_le (s : M) (i : Nat) : (mrnd bs s).v i ≤ s.v i := fold_le _ _ i
theorem le_zero (k : Nat) (i : Nat) : (mk bs k).v i ≤ 0 := by
  induction k with
  | zero => exact Int.le_refl _
  | succ k ih => exact Int.le_trans (rnd_le _ i) ih
/-- a round in which nothing is lowered: the bonds are kept -/
theorem fold_none : ∀ (xs : List (Bd × Nat)) (s : M), s.low = none → (xs.foldl mstep s).low = none → xs.foldl mstep s = s ∧ ∀ x ∈ xs, s.v x.1.hi ≤ s.v x.1.lo + x.1.rm
  | [], s, _, _ => ⟨rfl, fun _ h => by cases h⟩
  | x :: xs, s, h0, h => by
    rw [List.foldl_cons] at h ⊢
    by_cases hx : s.v x.1.lo + x.1.rm < s.v x.1.hi
    · exfalso
      have some_low : ∀ (ys : List (Bd × Nat)) (s : M), s.low ≠ none → (ys.foldl mstep s).low ≠ none := by
        intro ys
        induction ys with
        | nil => intro s h; exact h
        | cons y ys ih =>
          intro s h
          rw [List.foldl_cons]
          apply ih
          unfold mstep
          split
          · simp
          · exact h
      exact some_low xs _ (by unfold mstep; rw [if_pos hx]; simp) h
    · have e : mstep s x = s := by unfold mstep; rw [if_neg hx]
      rw [e] at h ⊢
      obtain ⟨a, b⟩ := fold_none xs s h0 h
      refine ⟨a, fun y hy => ?_⟩
      rcases List.mem_cons.mp hy with rfl | hy
      · omega
      · exact b y hy
theorem fixed {k : Nat} (h : (mk bs (k + 1)).low = none) : Keeps bs (mk bs (k + 1)).v ∧ (mk bs (k + 1)).v = (mk bs k).v := by
  obtain ⟨a, b⟩ := fold_none bs.zipIdx { mk bs k with low := none } rfl h
  have e : (mk bs (k + 1)).v = (mk bs k).v := by have := congrArg M.v a; exact this
  refine ⟨fun y hy => ?_, e⟩
  rw [e]
  obtain ⟨i, hi⟩ := List.mem_iff_getElem?.mp hy
  exact b (y, i) (by
    refine List.mem_iff_getElem?.mpr ⟨i, ?_⟩
    rw [List.getElem?_zipIdx, hi]; simp)
/-- the last one lowered, and that it was -/
theorem fold_low : ∀ (xs : List (Bd × Nat)) (s : M) (h : Nat), (s.low = some h → False) → (xs.foldl mstep s).low = some h → (xs.foldl mstep s).v h < s.v h
  | [], s, h, h0, e => (h0 e).elim
  | x :: xs, s, h, h0, e => by
    rw [List.foldl_cons] at e ⊢
    by_cases hx : s.v x.1.lo + x.1.rm < s.v x.1.hi
    · by_cases eh : x.1.hi = h
      · have l1 := fold_le xs (mstep s x) h
        have l2 : (mstep s x).v h < s.v h := by
          unfold mstep
          rw [if_pos hx]
          dsimp only
          rw [← eh, fup_at]; exact hx
        omega
      · have := fold_low xs (mstep s x) h (by unfold mstep; rw [if_pos hx]; simpa using eh) e
        have l2 := step_le s x h
        omega
    · have e2 : mstep s x = s := by unfold mstep; rw [if_neg hx]
      rw [e2] at e ⊢
      exact fold_low xs s h h0 e
theorem lowered {k h : Nat} (e : (mk bs (k + 1)).low = some h) : (mk bs (k + 1)).v h < (mk bs k).v h := fold_low bs.zipIdx { mk bs k with low := none } h (by simp) e
/-! ### origins -/
/-- origins tell what was lowered by what -/
structure Org (bs : List Bd) (s : M) (ts : Nat → Nat) (T : Nat) : Prop where
  root : ∀ i, s.c i = none → s.v i = 0
  edge : ∀ i k, s.c i = some k → ∃ b, bs[k]? = some b ∧ b.hi = i ∧ s.v b.lo + b.rm ≤ s.v i ∧ (ts i < ts b.lo → s.v b.lo + b.rm < s.v i) ∧ (b.lo = i → b.rm < 0)
  tm : ∀ i, s.c i ≠ none → ts i < T
  inj : ∀ i j, s.c i ≠ none → s.c j ≠ none → ts i = ts j → i = j
  zero : ∀ i, s.c i = none → ts i = 0
  pos : ∀ i, s.c i ≠ none → 0 < ts i
theorem org (k : Nat) : ∃ ts T, Org bs (mk bs k) ts T := by
  refine mk_ind (fun s => ∃ ts T, Org bs s ts T) ⟨fun _ => 0, 1, fun _ _ => rfl, fun _ _ h => (by cases h), fun _ h => absurd rfl h, fun _ _ h => absurd rfl h, fun _ _ => rfl, fun _ h => absurd rfl h⟩ (fun s h => by obtain ⟨ts, T, h⟩ := h; exact ⟨ts, T, h.root, h.edge, h.tm, h.inj, h.zero, h.pos⟩) (fun s x hx hh => ?_) k
  obtain ⟨ts, T, h⟩ := hh
  obtain ⟨b, p⟩ := x
  have hb := zip_get hx
  unfold mstep
  split
  · rename_i hlt
    dsimp only at hlt ⊢
    have tmle : ∀ i, ts i < T ∨ ts i = 0 := fun i => by
      by_cases hc : s.c i = none
      · exact .inr (h.zero i hc)
      · exact .inl (h.tm i hc)
    refine ⟨fup ts b.hi (T + 1), T + 2, ?_, ?_, ?_, ?_, ?_, ?_⟩
    · intro i hi
      by_cases e : i = b.hi
      · subst e; simp at hi
      · dsimp only at hi ⊢
        rw [fup_ne _ _ e] at hi ⊢; exact h.root i hi
    · intro i k hi
      dsimp only at hi ⊢
      by_cases e : i = b.hi
      · subst e
        rw [fup_at] at hi
        cases hi
        refine ⟨b, hb, rfl, ?_, ?_, ?_⟩
        · rw [fup_at]
          by_cases e2 : b.lo = b.hi
          · have e3 : s.v b.lo = s.v b.hi := by rw [e2]
            rw [e2, fup_at]; omega
          · rw [fup_ne _ _ e2]; omega
        · rw [fup_at]
          by_cases e2 : b.lo = b.hi
          · rw [e2, fup_at]; intro z; omega
          · rw [fup_ne _ _ e2]
            intro z
            rcases tmle b.lo with q | q <;> omega
        · intro e2; rw [e2] at hlt; omega
      · rw [fup_ne _ _ e] at hi
        obtain ⟨b', g1, g2, g3, g4, g5⟩ := h.edge i k hi
        refine ⟨b', g1, g2, ?_, ?_, g5⟩
        · rw [fup_ne _ _ e]
          by_cases e2 : b'.lo = b.hi
          · rw [e2, fup_at]; rw [e2] at g3; omega
          · rw [fup_ne _ _ e2]; exact g3
        · rw [fup_ne _ _ e, fup_ne _ _ e]
          by_cases e2 : b'.lo = b.hi
          · rw [e2] at g3 ⊢; simp only [fup_at]; intro _; omega
          · rw [fup_ne _ _ e2, fup_ne _ _ e2]; exact g4
    · intro i hi
      dsimp only at hi ⊢
      by_cases e : i = b.hi
      · subst e; rw [fup_at]; omega
      · rw [fup_ne _ _ e] at hi ⊢; have := h.tm i hi; omega
    · intro i j hi hj ht
      dsimp only at hi hj
      by_cases e : i = b.hi
      · by_cases e2 : j = b.hi
        · rw [e, e2]
        · rw [fup_ne _ _ e2] at hj
          rw [e, fup_at, fup_ne _ _ e2] at ht
          have := h.tm j hj; omega
      · rw [fup_ne _ _ e] at hi
        by_cases e2 : j = b.hi
        · rw [e2, fup_at, fup_ne _ _ e] at ht
          have := h.tm i hi; omega
        · rw [fup_ne _ _ e2] at hj
          rw [fup_ne _ _ e, fup_ne _ _ e2] at ht
          exact h.inj i j hi hj ht
    · intro i hi
      dsimp only at hi
      by_cases e : i = b.hi
      · subst e; simp at hi
      · rw [fup_ne _ _ e] at hi ⊢; exact h.zero i hi
    · intro i hi
      dsimp only at hi
      by_cases e : i = b.hi
      · subst e; rw [fup_at]; omega
      · rw [fup_ne _ _ e] at hi ⊢; exact h.pos i hi
  · exact ⟨ts, T, h⟩
end
end K37
end

section
set_option autoImplicit false
set_option linter.all false
/-! k37: relaxing: the greatest values; the ring. -/
namespace K37
/-! ### greatest -/
def dstep (v : Nat → Int) (d : Nat → Bool) (b : Bd) : Nat → Bool := if d b.lo = true ∧ v b.hi = v b.lo + b.rm then fup d b.hi true else d
def dpass (bs : List Bd) (v : Nat → Int) (d : Nat → Bool) : Nat → Bool := bs.foldl (dstep v) d
def dk (bs : List Bd) (v : Nat → Int) : Nat → Nat → Bool
  | 0 => fun i => decide (v i = 0)
  | k + 1 => dpass bs v (dk bs v k)
section
variable {bs : List Bd} {v : Nat → Int} {d : Nat → Bool}
theorem dstep_mono (b : Bd) {i : Nat} (h : d i = true) : dstep v d b i = true := by
  unfold dstep
  split
  · by_cases e : i = b.hi
    · subst e; simp
    · rw [fup_ne _ _ e]; exact h
  · exact h
theorem dfold_mono : ∀ (xs : List Bd) {d : Nat → Bool} {i : Nat}, d i = true → xs.foldl (dstep v) d i = true
  | [], _, _, h => h
  | x :: xs, _, _, h => dfold_mono xs (dstep_mono x h)
theorem dk_mono {k i : Nat} (h : dk bs v k i = true) : dk bs v (k + 1) i = true := dfold_mono bs h
/-- a pass that marks nothing new among the first n -/
theorem dfold_same : ∀ (xs : List Bd) (d : Nat → Bool), (∀ i, xs.foldl (dstep v) d i = d i) → ∀ b ∈ xs, d b.lo = true → v b.hi = v b.lo + b.rm → d b.hi = true
  | [], _, _, _, h, _, _ => by cases h
  | x :: xs, d, h, b, hb, h1, h2 => by
    rw [List.foldl_cons] at h
    have hx : ∀ i, dstep v d x i = d i := fun i => by
      cases hd : d i with
      | true => exact dstep_mono x hd
      | false =>
        cases hs : dstep v d x i with
        | false => rfl
        | true => have := dfold_mono (v := v) xs hs; rw [h i, hd] at this; cases this
    rcases List.mem_cons.mp hb with e | hb
    · subst e
      have := hx b.hi
      unfold dstep at this
      rw [if_pos ⟨h1, h2⟩, fup_at] at this
      exact this.symm
    · have e : dstep v d x = d := funext hx
      rw [e] at h
      exact dfold_same xs d h b hb h1 h2
def cnt (d : Nat → Bool) : Nat → Nat
  | 0 => 0
  | n + 1 => cnt d n + if d n then 1 else 0
theorem cnt_le (d : Nat → Bool) : ∀ n, cnt d n ≤ n
  | 0 => Nat.le_refl _
  | n + 1 => by have := cnt_le d n; simp only [cnt]; split <;> omega
theorem cnt_mono {d e : Nat → Bool} (h : ∀ i, d i = true → e i = true) : ∀ n, cnt d n ≤ cnt e n
  | 0 => Nat.le_refl _
  | n + 1 => by
    have := cnt_mono h n
    simp only [cnt]
    cases hd : d n with
    | true => rw [h n hd]; simp; omega
    | false => simp; omega
theorem cnt_lt {d e : Nat → Bool} (h : ∀ i, d i = true → e i = true) {j : Nat} (h1 : d j = false) (h2 : e j = true) : ∀ n, j < n → cnt d n < cnt e n
  | 0, hj => by omega
  | n + 1, hj => by
    simp only [cnt]
    by_cases e' : j = n
    · subst e'
      have := cnt_mono h j
      rw [h1, h2]; simp; omega
    · have := cnt_lt h h1 h2 n (by omega)
      cases hd : d n with
      | true => rw [h n hd]; simp; omega
      | false => simp; omega
theorem cnt_all {d : Nat → Bool} : ∀ n, n ≤ cnt d n → ∀ i, i < n → d i = true
  | 0, _, i, h => by omega
  | n + 1, h, i, hi => by
    simp only [cnt] at h
    have hl := cnt_le d n
    cases hd : d n with
    | false => rw [hd] at h; simp at h; omega
    | true =>
      rw [hd] at h
      by_cases e : i = n
      · subst e; exact hd
      · exact cnt_all n (by simp at h; omega) i (by omega)
variable {n : Nat} (hb : ∀ b, b ∈ bs → b.lo < n ∧ b.hi < n)
include hb
theorem dk_out {k i : Nat} (hi : n ≤ i) : dk bs v k i = dk bs v 0 i := by
  have key : ∀ (xs : List Bd) (d : Nat → Bool), (∀ b ∈ xs, b.hi < n) → xs.foldl (dstep v) d i = d i := by
    intro xs
    induction xs with
    | nil => intro d _; rfl
    | cons x xs ih =>
      intro d hx
      rw [List.foldl_cons, ih _ fun b h => hx b (by simp [h])]
      unfold dstep
      split
      · exact fup_ne _ _ (by have := hx x (by simp); omega)
      · rfl
  induction k with
  | zero => rfl
  | succ k ih => exact (key bs _ fun b h => (hb b h).2).trans ih
/-- closed behind n passes, or all done -/
theorem dk_closed : (∀ i, i < n → dk bs v n i = true) ∨ ∀ b ∈ bs, dk bs v n b.lo = true → v b.hi = v b.lo + b.rm → dk bs v n b.hi = true := by
  by_cases hs : ∃ j, j < n ∧ ∀ i, dk bs v (j + 1) i = dk bs v j i
  · right
    obtain ⟨j, hj, hj2⟩ := hs
    have e0 : dk bs v (j + 1) = dk bs v j := funext hj2
    have same : ∀ m, dk bs v (j + m) = dk bs v j := by
      intro m
      induction m with
      | zero => rfl
      | succ m ih =>
        show dpass bs v (dk bs v (j + m)) = _
        rw [ih]; exact e0
    have en : dk bs v n = dk bs v j := by
      have := same (n - j)
      rwa [show j + (n - j) = n by omega] at this
    rw [en]
    exact dfold_same bs _ hj2
  · left
    apply cnt_all
    have grow : ∀ k, k ≤ n → k ≤ cnt (dk bs v k) n := by
      intro k
      induction k with
      | zero => intro _; exact Nat.zero_le _
      | succ k ih =>
        intro hk
        have h1 := ih (by omega)
        have : ∃ i, dk bs v (k + 1) i ≠ dk bs v k i := Classical.byContradiction fun z => hs ⟨k, by omega, fun i => Classical.byContradiction fun q => z ⟨i, q⟩⟩
        obtain ⟨i, hi⟩ := this
        have hin : i < n := by
          refine Classical.byContradiction fun z => hi ?_
          rw [dk_out hb (by omega), dk_out hb (k := k) (by omega)]
        have hf : dk bs v k i = false := by
          cases hd : dk bs v k i with
          | false => rfl
          | true => exact absurd ((dk_mono hd).trans hd.symm) hi
        have ht : dk bs v (k + 1) i = true := by
          cases hd : dk bs v (k + 1) i with
          | true => rfl
          | false => exact absurd (hd.trans hf.symm) hi
        have := cnt_lt (d := dk bs v k) (e := dk bs v (k + 1)) (fun i h => dk_mono h) hf ht n hin
        omega
    exact grow n (Nat.le_refl _)
/-- greatest values are reached from the zeros along tight bonds -/
theorem greatest (hk : Keeps bs v) (h0 : ∀ i, v i ≤ 0) (hg : ∀ u, Keeps bs u → (∀ i, u i ≤ 0) → ∀ i, u i ≤ v i) : ∀ i, i < n → dk bs v n i = true := by
  rcases dk_closed (v := v) hb with h | h
  · exact h
  · intro i hi
    cases hd : dk bs v n i with
    | true => rfl
    | false =>
      exfalso
      have zero : ∀ k j, v j = 0 → dk bs v k j = true := by
        intro k
        induction k with
        | zero => intro j hj; simp [dk, hj]
        | succ k ih => intro j hj; exact dk_mono (ih j hj)
      have := hg (fun j => if j < n ∧ dk bs v n j = false then v j + 1 else v j) (fun b hbm => ?_) (fun j => ?_) i
      · rw [if_pos ⟨hi, hd⟩] at this
        omega
      · have hkb := hk b hbm
        have hbb := hb b hbm
        show (if b.hi < n ∧ dk bs v n b.hi = false then v b.hi + 1 else v b.hi) ≤ (if b.lo < n ∧ dk bs v n b.lo = false then v b.lo + 1 else v b.lo) + b.rm
        by_cases h1 : dk bs v n b.hi = false
        · rw [if_pos ⟨hbb.2, h1⟩]
          by_cases h2 : dk bs v n b.lo = false
          · rw [if_pos ⟨hbb.1, h2⟩]; omega
          · rw [if_neg (by simp [h2])]
            have h2 : dk bs v n b.lo = true := by simpa using h2
            have : v b.hi ≠ v b.lo + b.rm := fun e => by rw [h b hbm h2 e] at h1; cases h1
            omega
        · rw [if_neg (by simp [h1])]
          split <;> omega
      · split
        · rename_i hj
          have : v j ≠ 0 := fun e => by rw [zero n j e] at hj; cases hj.2
          have := h0 j
          omega
        · exact h0 j
end
end K37
end

section
set_option autoImplicit false
set_option linter.all false
/-! k37: relaxing that does not end: the ring behind the last one lowered. -/
namespace K37
/-- where a bond lies -/
def bdA (bs : List Bd) (k : Nat) : Bd := (bs[k]?).getD ⟨0, 0, 0⟩
def nxt (bs : List Bd) (c : Nat → Option Nat) (i : Nat) : Nat := match c i with | some k => (bdA bs k).lo | none => i
def rmx (bs : List Bd) (c : Nat → Option Nat) (i : Nat) : Int := match c i with | some k => (bdA bs k).rm | none => 0
/-- j steps back from x -/
def walk (bs : List Bd) (c : Nat → Option Nat) : Nat → Nat → Nat
  | 0, x => x
  | j + 1, x => nxt bs c (walk bs c j x)
/-- their rooms -/
def cost (bs : List Bd) (c : Nat → Option Nat) (x : Nat) : Nat → Int
  | 0 => 0
  | j + 1 => cost bs c x j + rmx bs c (walk bs c j x)
section
variable {bs : List Bd}
/-- a bond in a round: from the values before it -/
theorem rnd_bond (s : M) {b : Bd} (hb : b ∈ bs) : (mrnd bs s).v b.hi ≤ s.v b.lo + b.rm := by
  have key : ∀ (xs : List (Bd × Nat)) (s : M), (∃ k, (b, k) ∈ xs) → (xs.foldl mstep s).v b.hi ≤ s.v b.lo + b.rm := by
    intro xs
    induction xs with
    | nil => rintro s ⟨k, h⟩; cases h
    | cons x xs ih =>
      rintro s ⟨k, h⟩
      rw [List.foldl_cons]
      rcases List.mem_cons.mp h with e | h
      · subst e
        refine Int.le_trans (fold_le xs _ _) ?_
        unfold mstep
        split
        · dsimp only; rw [fup_at]; exact Int.le_refl _
        · rename_i z; dsimp only at z; omega
      · have := ih (mstep s x) ⟨k, h⟩
        have := step_le s x b.lo
        omega
  obtain ⟨i, hi⟩ := List.mem_iff_getElem?.mp hb
  exact key bs.zipIdx { s with low := none } ⟨i, List.mem_iff_getElem?.mpr ⟨i, by rw [List.getElem?_zipIdx, hi]; simp⟩⟩
variable {n : Nat} (hb : ∀ b, b ∈ bs → b.lo < n ∧ b.hi < n) {ts : Nat → Nat} {T : Nat}
theorem mk_le {j k : Nat} (h : j ≤ k) (i : Nat) : (mk bs k).v i ≤ (mk bs j).v i := by
  obtain ⟨d, rfl⟩ : ∃ d, k = j + d := ⟨k - j, by omega⟩
  clear h
  induction d with
  | zero => exact Int.le_refl _
  | succ d ih => exact Int.le_trans (rnd_le _ i) ih
theorem org_edge {s : M} (o : Org bs s ts T) {i k : Nat} (h : s.c i = some k) : bdA bs k ∈ bs ∧ (bdA bs k).hi = i ∧ nxt bs s.c i = (bdA bs k).lo ∧ rmx bs s.c i = (bdA bs k).rm ∧ s.v (nxt bs s.c i) + rmx bs s.c i ≤ s.v i ∧ (ts i < ts (nxt bs s.c i) → s.v (nxt bs s.c i) + rmx bs s.c i < s.v i) ∧ (nxt bs s.c i = i → rmx bs s.c i < 0) := by
  obtain ⟨b, e1, e2, e3, e4, e5⟩ := o.edge i k h
  have eb : bdA bs k = b := by unfold bdA; rw [e1]; rfl
  have en : nxt bs s.c i = b.lo := by unfold nxt; rw [h]; dsimp only; rw [eb]
  have er : rmx bs s.c i = b.rm := by unfold rmx; rw [h]; dsimp only; rw [eb]
  rw [eb, en, er]
  exact ⟨List.mem_of_getElem? e1, e2, rfl, rfl, e3, e4, e5⟩
/-- along the way back the values fall by the rooms at least -/
theorem cost_le {s : M} (o : Org bs s ts T) (x : Nat) : ∀ j, (∀ i, i < j → s.c (walk bs s.c i x) ≠ none) → s.v (walk bs s.c j x) + cost bs s.c x j ≤ s.v x
  | 0, _ => by simp [walk, cost]
  | j + 1, h => by
    have ih := cost_le o x j fun i hi => h i (by omega)
    obtain ⟨k, hk⟩ := Option.ne_none_iff_exists'.mp (h j (by omega))
    have := (org_edge o hk).2.2.2.2.1
    simp only [walk, cost]
    omega
/-- a way of d steps to the start of all is too long for d rounds -/
theorem bf {s : M} (o : Org bs s ts T) (x d : Nat) (h : ∀ i, i < d → s.c (walk bs s.c i x) ≠ none) : ∀ j, j ≤ d → (mk bs j).v (walk bs s.c (d - j) x) + cost bs s.c x (d - j) ≤ cost bs s.c x d
  | 0, _ => by simp [mk, m0]
  | j + 1, hj => by
    have ih := bf o x d h j (by omega)
    have e : d - j = (d - (j + 1)) + 1 := by omega
    obtain ⟨k, hk⟩ := Option.ne_none_iff_exists'.mp (h (d - (j + 1)) (by omega))
    obtain ⟨e1, e2, e3, e4, _⟩ := org_edge o hk
    have hr := rnd_bond (mk bs j) e1
    rw [e2, ← e3, ← e4] at hr
    rw [e] at ih
    simp only [walk, cost] at ih
    show (mrnd bs (mk bs j)).v _ + _ ≤ _
    omega
include hb
theorem walk_lt {s : M} (o : Org bs s ts T) {x : Nat} (hx : x < n) : ∀ j, walk bs s.c j x < n
  | 0 => hx
  | j + 1 => by
    have ih := walk_lt o hx j
    simp only [walk]
    cases hc : s.c (walk bs s.c j x) with
    | none => unfold nxt; rw [hc]; exact ih
    | some k =>
      obtain ⟨e1, _, e3, _⟩ := org_edge o hc
      rw [e3]; exact (hb _ e1).1
omit hb in
theorem walk_add (c : Nat → Option Nat) (x : Nat) (i : Nat) : ∀ j, walk bs c (i + j) x = walk bs c j (walk bs c i x)
  | 0 => rfl
  | j + 1 => by show nxt bs c (walk bs c (i + j) x) = _; rw [walk_add c x i j]; rfl
omit hb in
/-- two of n + 1 are the same -/
theorem pigeon : ∀ (n : Nat) (f : Nat → Nat), (∀ i, i ≤ n → f i < n) → ∃ i j, i < j ∧ j ≤ n ∧ f i = f j
  | 0, f, h => by have := h 0 (Nat.le_refl _); omega
  | n + 1, f, h => by
    by_cases hc : ∃ i, i ≤ n ∧ f i = f (n + 1)
    · obtain ⟨i, hi, e⟩ := hc
      exact ⟨i, n + 1, by omega, Nat.le_refl _, e⟩
    · -- n is put where f (n + 1) was
      obtain ⟨i, j, h1, h2, h3⟩ := pigeon n (fun i => if f i = n then f (n + 1) else f i) fun i hi => by
        have h1 := h i (by omega)
        have h2 := h (n + 1) (Nat.le_refl _)
        have h3 : f i ≠ f (n + 1) := fun e => hc ⟨i, hi, e⟩
        split <;> omega
      have n1 : f i ≠ f (n + 1) := fun e => hc ⟨i, by omega, e⟩
      have n2 : f j ≠ f (n + 1) := fun e => hc ⟨j, by omega, e⟩
      refine ⟨i, j, h1, by omega, ?_⟩
      split at h3 <;> split at h3 <;> omega
/-- the way back from the last one lowered never ends -/
theorem no_root (hn : 0 < n) {x : Nat} (hx : (mk bs n).low = some x) (hxn : x < n) (o : Org bs (mk bs n) ts T) : ∀ j, (mk bs n).c (walk bs (mk bs n).c j x) ≠ none := by
  -- no end before n steps
  have short : ∀ d, d < n → (∀ i, i < d → (mk bs n).c (walk bs (mk bs n).c i x) ≠ none) → (mk bs n).c (walk bs (mk bs n).c d x) ≠ none := by
    intro d hd h hc
    have h1 := cost_le o x d h
    have h2 := bf o x d h d (Nat.le_refl _)
    rw [Nat.sub_self] at h2
    simp only [walk, cost] at h2
    rw [o.root _ hc] at h1
    obtain ⟨m, rfl⟩ : ∃ m, n = m + 1 := ⟨n - 1, by omega⟩
    have h3 := lowered hx
    have h4 := mk_le (bs := bs) (show d ≤ m by omega) x
    omega
  have upto : ∀ j, j ≤ n → ∀ i, i < j → (mk bs n).c (walk bs (mk bs n).c i x) ≠ none := by
    intro j
    induction j with
    | zero => intro _ i hi; omega
    | succ j ih =>
      intro hj i hi
      have ih := ih (by omega)
      by_cases e : i = j
      · subst e; exact short i (by omega) ih
      · exact ih i (by omega)
  have base := upto n (Nat.le_refl _)
  obtain ⟨i, j, h1, h2, h3⟩ := pigeon n (fun j => walk bs (mk bs n).c j x) fun i _ => walk_lt hb o hxn i
  intro k
  induction k using Nat.strongRecOn with
  | ind k ih =>
    by_cases hk : k < n
    · exact base k hk
    · have e : walk bs (mk bs n).c k x = walk bs (mk bs n).c (k - (j - i)) x := by
        rw [show k = j + (k - j) by omega, walk_add, ← h3, ← walk_add]
        congr 1; omega
      rw [e]
      exact ih _ (by omega)
omit hb in
/-- a way round has rooms of less than nothing -/
theorem round_neg {s : M} (o : Org bs s ts T) {x r : Nat} (hr : 0 < r) (hd : ∀ j, s.c (walk bs s.c j x) ≠ none) (e : walk bs s.c r x = x) : cost bs s.c x r < 0 := by
  have key : ∀ t, s.v (walk bs s.c t x) + cost bs s.c x t < s.v x ∨ (s.v (walk bs s.c t x) + cost bs s.c x t ≤ s.v x ∧ (t = 0 ∨ ts (walk bs s.c t x) < ts x)) := by
    intro t
    induction t with
    | zero => exact .inr ⟨by simp [walk, cost], .inl rfl⟩
    | succ t ih =>
      obtain ⟨k, hk⟩ := Option.ne_none_iff_exists'.mp (hd t)
      obtain ⟨_, _, _, _, e1, e2, e3⟩ := org_edge o hk
      simp only [walk, cost]
      by_cases hlt : ts (walk bs s.c t x) < ts (nxt bs s.c (walk bs s.c t x))
      · have := e2 hlt
        left
        rcases ih with ih | ih <;> omega
      · by_cases heq : nxt bs s.c (walk bs s.c t x) = walk bs s.c t x
        · have e4 := e3 heq
          left
          have ev : s.v (nxt bs s.c (walk bs s.c t x)) = s.v (walk bs s.c t x) := by rw [heq]
          rcases ih with ih | ih <;> omega
        · have hne : ts (nxt bs s.c (walk bs s.c t x)) ≠ ts (walk bs s.c t x) := fun z => heq (o.inj _ _ (hd (t + 1)) (hd t) z)
          rcases ih with ih | ⟨ih, ih2⟩
          · left; omega
          · right
            refine ⟨by omega, .inr ?_⟩
            rcases ih2 with rfl | ih2
            · simp only [walk] at hlt hne ⊢; omega
            · omega
  rcases key r with h | ⟨h, h2⟩
  · rw [e] at h; omega
  · rcases h2 with h2 | h2
    · omega
    · rw [e] at h2; omega
/-- behind n steps the way goes round -/
theorem goes_round {s : M} (o : Org bs s ts T) {x : Nat} (hxn : x < n) : ∃ r, 0 < r ∧ r ≤ n ∧ walk bs s.c r (walk bs s.c n x) = walk bs s.c n x ∧ ∀ q, 0 < q → q < r → walk bs s.c q (walk bs s.c n x) ≠ walk bs s.c n x := by
  obtain ⟨i, j, h1, h2, h3⟩ := pigeon n (fun j => walk bs s.c j x) fun i _ => walk_lt hb o hxn i
  have e : walk bs s.c (j - i) (walk bs s.c n x) = walk bs s.c n x := by
    rw [← walk_add, show n + (j - i) = j + (n - i) by omega, walk_add, ← h3, ← walk_add]
    congr 1; omega
  have least : ∀ r, 0 < r → walk bs s.c r (walk bs s.c n x) = walk bs s.c n x → ∃ q, 0 < q ∧ q ≤ r ∧ walk bs s.c q (walk bs s.c n x) = walk bs s.c n x ∧ ∀ p, 0 < p → p < q → walk bs s.c p (walk bs s.c n x) ≠ walk bs s.c n x := by
    intro r
    induction r using Nat.strongRecOn with
    | ind r ih =>
      intro hr hw
      by_cases hc : ∃ p, 0 < p ∧ p < r ∧ walk bs s.c p (walk bs s.c n x) = walk bs s.c n x
      · obtain ⟨p, p1, p2, p3⟩ := hc
        obtain ⟨q, q1, q2, q3⟩ := ih p p2 p1 p3
        exact ⟨q, q1, by omega, q3⟩
      · exact ⟨r, hr, Nat.le_refl _, hw, fun p p1 p2 p3 => hc ⟨p, p1, p2, p3⟩⟩
  obtain ⟨q, q1, q2, q3⟩ := least (j - i) (by omega) e
  exact ⟨q, q1, by omega, q3⟩
end
end K37
end

section
set_option autoImplicit false
set_option linter.all false
set_option maxRecDepth 100000
/-! k37: relax, _ring_behind, solve. -/
namespace K37
open Py
def cI : Option Nat → Int
  | none => -1
  | some k => k
def encM (n : Nat) (s : M) : Ls := ⟨(List.range n).map fun i => some (s.v i), (List.range n).map fun i => cI (s.c i), cI s.low⟩
theorem range_set {α : Type} (n : Nat) (f : Nat → α) (i : Nat) (a : α) : ((List.range n).map f).set i a = (List.range n).map (fup f i a) := by
  apply List.ext_getElem?
  intro j
  by_cases hj : j < n
  · by_cases e : j = i
    · subst e
      rw [List.getElem?_set_self (by simpa using hj)]
      simp [hj]
    · rw [List.getElem?_set_ne (Ne.symm e)]
      simp [hj, fup_ne _ _ e]
  · rw [List.getElem?_eq_none (by simp; omega), List.getElem?_eq_none (by simp; omega)]
section
variable {n : Nat} {bs : List Bd} (hb : ∀ b, b ∈ bs → b.lo < n ∧ b.hi < n)
include hb
theorem enc_step (s : M) {x : Bd × Nat} (hx : x ∈ bs.zipIdx) : lstep (encM n s) x = encM n (mstep s x) := by
  obtain ⟨b, k⟩ := x
  have h := hb b (List.mem_of_getElem? (zip_get hx))
  have e1 : (encM n s).vs[b.lo]? = some (some (s.v b.lo)) := by simp [encM, h.1]
  have e2 : (encM n s).vs[b.hi]? = some (some (s.v b.hi)) := by simp [encM, h.2]
  unfold lstep mstep
  simp only [e1, e2]
  split
  · simp only [encM, range_set, cI]
    congr 1
    · congr 1; funext i; by_cases e : i = b.hi <;> simp [fup, e]
    · congr 1; funext i; by_cases e : i = b.hi <;> simp [fup, e, cI]
  · rfl
theorem enc_rnd (s : M) : lowerF bs (encM n s).vs (encM n s).cb = encM n (mrnd bs s) := by
  have key : ∀ (xs : List (Bd × Nat)) (s : M), (∀ x ∈ xs, x ∈ bs.zipIdx) → xs.foldl lstep (encM n s) = encM n (xs.foldl mstep s) := by
    intro xs
    induction xs with
    | nil => intro s _; rfl
    | cons x xs ih => intro s hx; rw [List.foldl_cons, List.foldl_cons, enc_step hb s (hx x (by simp)), ih _ fun y hy => hx y (by simp [hy])]
  exact key bs.zipIdx { s with low := none } fun _ h => h
end
/-- what is left to go round -/
def left (r : Nat) (σ : VEnv) : Nat := match (σ[6]? : Option (Option U)) with
  | some (some (U.own ps)) => r - ps.length
  | _ => 0
abbrev o4 : VEnv := [none, none, none, none]
theorem ring_v {n : Nat} {bs : List Bd} {c : Nat → Option Nat} {x r : Nat} (hk : ∀ i, i < n → ∀ k, c i = some k → k < bs.length) (hl : ∀ j, walk bs c j x < n) (hd : ∀ j, c (walk bs c j x) ≠ none) (hr : 0 < r) (hrn : r ≤ n)
    (e : walk bs c r (walk bs c n x) = walk bs c n x) (hmin : ∀ q, 0 < q → q < r → walk bs c q (walk bs c n x) ≠ walk bs c n x) (hn : n ≤ 20) :
    F__ring_behind.v [.fz (.int n), .fz (.lst (bs.map bP)), .fz (.lst ((List.range n).map fun i => .int (cI (c i)))), .fz (.int x)] = .ok (.own (((List.range r).map fun t => .int (cI (c (walk bs c t (walk bs c n x))))).reverse)) o4 := by
  apply vf_ok
  rw [wf__ring_behind]
  unfold vb__ring_behind
  -- a step back
  have look : ∀ j, ∃ k : Nat, c (walk bs c j x) = some k ∧ k < bs.length ∧ (bs.map bP)[k]? = some (.tup [.int (walk bs c (j + 1) x), .int (bdA bs k).hi, .int (bdA bs k).rm]) ∧ ((List.range n).map fun i => P.int (cI (c i)))[walk bs c j x]? = some (.int k) := by
    intro j
    obtain ⟨k, h1⟩ := Option.ne_none_iff_exists'.mp (hd j)
    have h2 := hk _ (hl j) k h1
    refine ⟨k, h1, h2, ?_, ?_⟩
    · have h3 : bs[k]? = some (bdA bs k) := by unfold bdA; rw [List.getElem?_eq_getElem h2]; rfl
      rw [List.getElem?_map, h3]
      simp only [Option.map_some, bP, walk, nxt, h1]
    · simp [hl j, h1, cI]
  have sm := small_int (i := n) (by omega) (by omega)
  simp [sm.1, sm.2]
  refine forV_by (fun i σ => ∃ y, σ = [some (.fz (.int n)), some (.fz (.lst (bs.map bP))), some (.fz (.lst ((List.range n).map fun i => .int (cI (c i))))), some (.fz (.int (walk bs c i x))), y, none, none]) ?_ ?_ ⟨none, rfl⟩
  · rintro i p σ hp ⟨y, rfl⟩
    refine ⟨_, rfl, ?_⟩
    obtain ⟨k, h1, h2, h3, h4⟩ := look i
    simp [h3, h4]
  · rintro σ ⟨y, rfl⟩
    have hlen' : (rngP 0 n).length = n := by simp [rngP]
    simp only [hlen']
    generalize hx0 : walk bs c n x = x0 at *
    obtain ⟨k, h1, h2, h3, h4⟩ := look n
    rw [hx0] at h1 h4
    have h5 : walk bs c (n + 1) x = nxt bs c x0 := by rw [← hx0]; rfl
    rw [h5] at h3
    unfold lzV
    simp
    unfold lzV
    simp [h4]
    unfold lzV
    simp [h3, h4]
    unfold lzV
    have wk : ∀ q, walk bs c q x0 = walk bs c (n + q) x := fun q => by rw [walk_add, hx0]
    have lk : ∀ q, ∃ k : Nat, c (walk bs c q x0) = some k ∧ (bs.map bP)[k]? = some (.tup [.int (walk bs c (q + 1) x0), .int (bdA bs k).hi, .int (bdA bs k).rm]) ∧ ((List.range n).map fun i => P.int (cI (c i)))[walk bs c q x0]? = some (.int k) := fun q => by
      obtain ⟨k, a1, _, a3, a4⟩ := look (n + q)
      rw [← wk] at a1 a4
      rw [show n + q + 1 = n + (q + 1) by omega, ← wk] at a3
      exact ⟨k, a1, a3, a4⟩
    have hm : mkLst [U.fz (.int (k : Int))] = .own ((List.range 1).map fun t => .int (cI (c (walk bs c t x0)))) := by
      simp [List.range_succ, mkLst, walk, h1, cI]
    rw [s_seq, hm]
    refine ⟨by unfold LINE; omega, wWhile (μ := left r) _ _ (fun σ => ∃ q, 0 < q ∧ q ≤ r ∧ σ = [some (.fz (.int n)), some (.fz (.lst (bs.map bP))), some (.fz (.lst ((List.range n).map fun i => .int (cI (c i))))), some (.fz (.int (walk bs c q x0))), y, some (.fz (.int x0)), some (.own ((List.range q).map fun t => .int (cI (c (walk bs c t x0)))))]) ⟨1, by omega, hr, rfl⟩ (by simp [left]; omega) ?_⟩
    rintro σ ⟨q, q1, q2, rfl⟩
    by_cases hq : q = r
    · subst hq
      simp [ub, e]
      unfold lzV
      simp [List.map_reverse]
    · have hne : ((walk bs c q x0 : Nat) : Int) ≠ x0 := fun z => hmin q q1 (by omega) (by omega)
      obtain ⟨k', b1, b3, b4⟩ := lk q
      have hL : q < LINE := by unfold LINE; omega
      simp [ub, hne, b4, hL]
      unfold lzV
      simp [b3, b4, left]
      refine ⟨⟨q + 1, by omega, by omega, rfl, ?_⟩, by omega⟩
      simp [List.range_succ, b1, cI]
def valsP (n : Nat) (s : M) : List P := (List.range n).map fun i => .int (s.v i)
theorem enc_vals (n : Nat) (s : M) : (encM n s).vs.map vP = valsP n s := by simp [encM, valsP, vP, Function.comp_def]
theorem enc_cb (n : Nat) (s : M) : (encM n s).cb.map P.int = (List.range n).map fun i => .int (cI (s.c i)) := by simp [encM, Function.comp_def]
theorem cI_none {o : Option Nat} : cI o = -1 ↔ o = none := by
  cases o with
  | none => simp [cI]
  | some k => simp only [cI]; exact ⟨fun h => by omega, fun h => by cases h⟩
/-- a ring of bonds, by places -/
structure Ring (bs : List Bd) (rs : List Nat) : Prop where
  ne : rs ≠ []
  lt : ∀ k ∈ rs, k < bs.length
  link : ∀ i, i + 1 < rs.length → (bdA bs (rs.getD i 0)).hi = (bdA bs (rs.getD (i + 1) 0)).lo
  close : (bdA bs (rs.getD (rs.length - 1) 0)).hi = (bdA bs (rs.getD 0 0)).lo
  neg : (rs.map fun k => (bdA bs k).rm).sum < 0
section
variable {n : Nat} {bs : List Bd} (hb : ∀ b, b ∈ bs → b.lo < n ∧ b.hi < n) (hn : 0 < n) (hn2 : n ≤ 20)
include hb hn hn2
/-- where relaxing does not end there is a ring, and _ring_behind tells it -/
theorem ring_of {x : Nat} (hx : (mk bs n).low = some x) (hxn : x < n) : ∃ rs : List Nat, Ring bs rs ∧ rs.length ≤ 20 ∧
    F__ring_behind.v [.fz (.int n), .fz (.lst (bs.map bP)), .fz (.lst ((List.range n).map fun i => .int (cI ((mk bs n).c i)))), .fz (.int x)] = .ok (.own (rs.map fun (k : Nat) => P.int (k : Int))) o4 := by
  obtain ⟨ts, T, o⟩ := org (bs := bs) n
  have hd := no_root hb hn hx hxn o
  obtain ⟨r, r1, r2, r3, r4⟩ := goes_round hb o hxn
  have hl := walk_lt hb o hxn
  have hk : ∀ i, i < n → ∀ k, (mk bs n).c i = some k → k < bs.length := fun i _ k h => by
    obtain ⟨b, e1, _⟩ := o.edge i k h
    exact (List.getElem?_eq_some_iff.mp e1).1
  have hv := ring_v hk hl hd r1 r2 r3 r4 hn2
  generalize hx0 : walk bs (mk bs n).c n x = x0 at *
  generalize hs : mk bs n = s at *
  have wk : ∀ q, walk bs s.c q x0 = walk bs s.c (n + q) x := fun q => by rw [walk_add, hx0]
  have hd0 : ∀ q, s.c (walk bs s.c q x0) ≠ none := fun q => by rw [wk]; exact hd _
  let f : Nat → Nat := fun t => (s.c (walk bs s.c t x0)).getD 0
  have hf : ∀ t, s.c (walk bs s.c t x0) = some (f t) := fun t => by
    obtain ⟨k, hk⟩ := Option.ne_none_iff_exists'.mp (hd0 t)
    show _ = some ((s.c (walk bs s.c t x0)).getD 0)
    rw [hk]; rfl
  have hlo : ∀ t, (bdA bs (f t)).lo = walk bs s.c (t + 1) x0 := fun t => by
    have := (org_edge o (hf t)).2.2.1
    show _ = nxt bs s.c _
    rw [this]
  have hhi : ∀ t, (bdA bs (f t)).hi = walk bs s.c t x0 := fun t => (org_edge o (hf t)).2.1
  have hrm : ∀ t, (bdA bs (f t)).rm = rmx bs s.c (walk bs s.c t x0) := fun t => ((org_edge o (hf t)).2.2.2.1).symm
  have get : ∀ i, i < r → (((List.range r).map f).reverse).getD i 0 = f (r - 1 - i) := fun i hi => by
    rw [List.getD_eq_getElem?_getD, List.getElem?_reverse (by simpa using hi)]
    simp
    rw [show (List.range r)[r - 1 - i]? = some (r - 1 - i) by rw [List.getElem?_range]; omega]
    rfl
  have hlen : ((List.range r).map f).reverse.length = r := by simp
  have hsum : ∀ t, (((List.range t).map f).map fun k => (bdA bs k).rm).sum = cost bs s.c x0 t := by
    intro t
    induction t with
    | zero => rfl
    | succ t ih =>
      rw [List.range_succ, List.map_append, List.map_append, List.sum_append, ih]
      simp [cost, hrm]
  refine ⟨((List.range r).map f).reverse, ⟨by intro z; have := congrArg List.length z; simp at this; omega, fun k hm => ?_, fun i hi => ?_, ?_, ?_⟩, by rw [hlen]; omega, ?_⟩
  · rw [List.mem_reverse, List.mem_map] at hm
    obtain ⟨t, _, rfl⟩ := hm
    obtain ⟨b, e1, _⟩ := o.edge _ _ (hf t)
    exact (List.getElem?_eq_some_iff.mp e1).1
  · rw [hlen] at hi
    rw [get i (by omega), get (i + 1) hi, hhi, hlo]
    congr 1; omega
  · rw [hlen, get (r - 1) (by omega), get 0 r1, hhi, hlo, show r - 1 - (r - 1) = 0 by omega, show r - 1 - 0 + 1 = r by omega, r3]
    rfl
  · have e : ((((List.range r).map f).reverse).map fun k => (bdA bs k).rm).sum = cost bs s.c x0 r := by
      rw [List.map_reverse, List.sum_reverse, hsum]
    rw [e]
    exact round_neg o r1 hd0 r3
  · rw [hv, List.map_reverse, List.map_map]
    congr 4
    funext t
    simp [hf, cI]
end
end K37
end

section
set_option autoImplicit false
set_option linter.all false
set_option maxRecDepth 100000
/-! k37: relax, solve. -/
namespace K37
open Py
section
variable {n : Nat} {bs : List Bd} (hb : ∀ b, b ∈ bs → b.lo < n ∧ b.hi < n) (hn : 0 < n) (hn2 : n ≤ 20)
theorem low_lt (hb : ∀ b, b ∈ bs → b.lo < n ∧ b.hi < n) (s : M) {h : Nat} (e : (mrnd bs s).low = some h) : h < n := by
  have key : ∀ (xs : List (Bd × Nat)) (s : M), (∀ x ∈ xs, x ∈ bs.zipIdx) → (∀ h, s.low = some h → h < n) → ∀ h, (xs.foldl mstep s).low = some h → h < n := by
    intro xs
    induction xs with
    | nil => intro s _ q h e; exact q h e
    | cons x xs ih =>
      intro s hx q
      refine ih _ (fun y hy => hx y (by simp [hy])) fun h e => ?_
      unfold mstep at e
      split at e
      · cases e
        obtain ⟨b, k⟩ := x
        exact (hb b (List.mem_of_getElem? (zip_get (hx (b, k) (by simp))))).2
      · exact q h e
  exact key bs.zipIdx { s with low := none } (fun _ h => h) (fun h e => by cases e) h e
include hb hn hn2
theorem relax_wf {Q : U → VEnv → Prop} {Z : VX → VEnv → Prop} (hv : ∀ k, k < n → (mk bs (k + 1)).low = none → Q (.fz (.tup [.tup (valsP n (mk bs (k + 1))), .non])) o2)
    (hr : ∀ rs : List Nat, Ring bs rs → rs.length ≤ 20 → Q (.tup [.fz .non, .own (rs.map fun (k : Nat) => P.int (k : Int))]) o2) : wF (F_relax.v [.fz (.int n), .fz (.lst (bs.map bP))]) Q Z := by
  rw [wf_relax]
  unfold vb_relax
  have sm := small_int (i := n) (by omega) (by omega)
  have r1 : ∀ (y : P) (e : E []) (σ : VEnv), σ[5]? = some none → (∀ i : Int, e.v (σ.set 5 (some (.fz (.int i)))) = .ok (.u (.fz y)) (σ.set 5 (some (.fz (.int i))))) → lcGoV (Tgt.name 5).v (Te.yes (Cx := [])).v e.v [5] (rngP 0 n) σ [] = .ok (((List.range n).map fun _ => y).map U.fz) σ := by
    intro y e σ h5 he
    unfold rngP
    refine lc_fn (fun (k : Nat) => .int (0 + (k : Int))) (fun _ => y) (List.range n) (by simp [LINE]; omega) fun k hk => ⟨_, rfl, he _, ?_⟩
    obtain ⟨hl, e⟩ := List.getElem?_eq_some_iff.mp h5
    simp only [wipe_cons, wipe_nil, List.set_set]
    rw [← e]; exact List.set_getElem_self hl
  have q1 := r1 (.int 0) (E.int 0) [some (.fz (.int n)), some (.fz (.lst (bs.map bP))), none, none, none, none] rfl (fun i => rfl)
  simp [sm.1, sm.2, q1]
  unfold lzV
  have q2 := r1 (.int (-1)) (E.op1 Neg (E.int 1)) [some (.fz (.int n)), some (.fz (.lst (bs.map bP))), some (mkLst (((List.range n).map fun _ => P.int 0).map U.fz)), none, none, none] rfl (fun i => by simp)
  simp at q2
  simp [sm.1, sm.2, q2]
  unfold lzV
  simp
  unfold lzV
  simp [sm.1, sm.2]
  have e0 : valsP n (mk bs 0) = (List.range n).map fun _ => P.int 0 := rfl
  have e1 : (encM n (mk bs 0)).cb.map P.int = (List.range n).map fun _ => P.int (-1) := by simp [encM, mk, m0, cI, Function.comp_def]
  refine forV_by (fun i σ => (∀ j, j < i → (mk bs (j + 1)).low ≠ none) ∧ ∃ y, σ = [some (.fz (.int n)), some (.fz (.lst (bs.map bP))), some (.own (valsP n (mk bs i))), some (.own ((encM n (mk bs i)).cb.map .int)), some (.fz (.int (cI (mk bs i).low))), y]) ?_ ?_ ?_
  · rintro i p σ hp ⟨hi, y, rfl⟩
    have hin : i < n := by
      have := (List.getElem?_eq_some_iff.mp hp).1
      simpa [rngP] using this
    refine ⟨_, rfl, ?_⟩
    have hlow := lower_v (n := n) (bs := bs) (vs := (encM n (mk bs i)).vs) (cb := (encM n (mk bs i)).cb) hb (by simp [encM]) (by simp [encM])
    rw [enc_rnd hb, enc_vals, enc_vals] at hlow
    have el : (encM n (mrnd bs (mk bs i))).low = cI (mk bs (i + 1)).low := rfl
    rw [el] at hlow
    simp [callK, hlow]
    unfold lzV
    simp [ub]
    by_cases hc : (mk bs (i + 1)).low = none
    · rw [if_pos (cI_none.mpr hc)]
      exact ⟨by unfold LINE; omega, hv i hin hc⟩
    · rw [if_neg (fun z => hc (cI_none.mp z))]
      refine ⟨fun j hj => ?_, rfl, rfl⟩
      by_cases e : j = i
      · subst e; exact hc
      · exact hi j (by omega)
  · rintro σ ⟨hi, y, rfl⟩
    have hlen : (rngP 0 n).length = n := by simp [rngP]
    simp only [hlen] at hi ⊢
    obtain ⟨m, rfl⟩ : ∃ m, n = m + 1 := ⟨n - 1, by omega⟩
    obtain ⟨h, hh⟩ := Option.ne_none_iff_exists'.mp (hi m (by omega))
    have hlt := low_lt hb (mk bs m) hh
    obtain ⟨rs, g1, g2, g3⟩ := ring_of hb hn hn2 hh hlt
    rw [← enc_cb] at g3
    unfold lzV
    have ec : cI (some h) = h := rfl
    have g3' : F__ring_behind.v [.fz (.int ((m : Int) + 1)), .fz (.lst (bs.map bP)), .fz (.lst ((encM (m + 1) (mk bs (m + 1))).cb.map P.int)), .fz (.int h)] = .ok (.own (rs.map fun (k : Nat) => P.int (k : Int))) o4 := by
      rw [← g3]; rfl
    simp [hh, ec, callK, g3']
    exact ⟨by unfold LINE; omega, hr rs g1 g2⟩
  · exact ⟨fun j hj => by omega, none, by rw [e0, e1]; rfl⟩
/-- what relax answers -/
theorem relax_v : (∃ k, k < n ∧ (mk bs (k + 1)).low = none ∧ F_relax.v [.fz (.int n), .fz (.lst (bs.map bP))] = .ok (.fz (.tup [.tup (valsP n (mk bs (k + 1))), .non])) o2) ∨
    ∃ rs : List Nat, Ring bs rs ∧ rs.length ≤ 20 ∧ F_relax.v [.fz (.int n), .fz (.lst (bs.map bP))] = .ok (.tup [.fz .non, .own (rs.map fun (k : Nat) => P.int (k : Int))]) o2 := by
  obtain ⟨u, o, h1, h2⟩ := vf_ex (relax_wf (Q := fun u o => o = o2 ∧ ((∃ k, k < n ∧ (mk bs (k + 1)).low = none ∧ u = .fz (.tup [.tup (valsP n (mk bs (k + 1))), .non])) ∨ ∃ rs : List Nat, Ring bs rs ∧ rs.length ≤ 20 ∧ u = .tup [.fz .non, .own (rs.map fun (k : Nat) => P.int (k : Int))])) (Z := fun _ _ => False) hb hn hn2
    (fun k h1 h2 => ⟨rfl, .inl ⟨k, h1, h2, rfl⟩⟩) fun rs h1 h2 => ⟨rfl, .inr ⟨rs, h1, h2, rfl⟩⟩)
  obtain ⟨rfl, h2 | h2⟩ := h2
  · obtain ⟨k, a, b, rfl⟩ := h2; exact .inl ⟨k, a, b, h1⟩
  · obtain ⟨rs, a, b, rfl⟩ := h2; exact .inr ⟨rs, a, b, h1⟩
theorem bs_ok (hl : bs.length ≤ 300) : Bs (bs.map bP) ∧ (∀ p, p ∈ bs.map bP → isB n p = true) ∧ (bs.map bP).length ≤ 300 := by
  refine ⟨⟨fun p hp => ?_, fun p hp qs e => ?_⟩, fun p hp => ?_, by simpa using hl⟩
  · obtain ⟨b, _, rfl⟩ := List.mem_map.mp hp; simp [bP]
  · obtain ⟨b, _, rfl⟩ := List.mem_map.mp hp; cases e; simp [LINE]
  · obtain ⟨b, hm, rfl⟩ := List.mem_map.mp hp
    have := hb b hm
    simp [isB, bP]; omega
/-- what solve answers -/
theorem solve_v (hl : bs.length ≤ 300) : (∃ k, k < n ∧ (mk bs (k + 1)).low = none ∧ F_solve.v [.fz (.int n), .fz (.lst (bs.map bP))] = .ok (.fz (.tup [.str ['v', 'a', 'l', 'u', 'e', 's'], .tup (valsP n (mk bs (k + 1)))])) o2) ∨
    ∃ rs : List Nat, Ring bs rs ∧ rs.length ≤ 20 ∧ F_solve.v [.fz (.int n), .fz (.lst (bs.map bP))] = .ok (.fz (.tup [.str ['r', 'i', 'n', 'g'], .lst (rs.map fun (k : Nat) => P.int (k : Int))])) o2 := by
  obtain ⟨b1, b2, b3⟩ := bs_ok hb hn hn2 hl
  have hc := check_ok (n := n) (by omega) b1 b3 b2
  rcases relax_v hb hn hn2 with ⟨k, h1, h2, h3⟩ | ⟨rs, h1, h2, h3⟩
  · left
    refine ⟨k, h1, h2, vf_ok ?_⟩
    rw [wf_solve]
    unfold vb_solve
    simp [callK, hc]
    unfold lzV
    simp [callK, h3]
    unfold lzV
    simp [ub]
    unfold lzV
    simp [LINE]
  · right
    refine ⟨rs, h1, h2, vf_ok ?_⟩
    rw [wf_solve]
    unfold vb_solve
    simp [callK, hc]
    unfold lzV
    simp [callK, h3]
    unfold lzV
    simp [ub, LINE]
end
end K37
end

section
set_option autoImplicit false
set_option linter.all false
set_option maxRecDepth 100000
/-! k37: _law_equal; is_values and _law_kept. -/
namespace K37
open Py
theorem whole_v {n : Nat} {p : P} (h : p.le n = true) : F__law_whole.v [.fz p] = .ok (.fz (.bl (isI p))) [none] := by
  apply vf_ok
  rw [wf__law_whole]
  unfold vb__law_whole
  obtain ⟨t, ht⟩ := ok_le h
  cases p <;> first | (cases ht; done) | simp [outsV, isI, isTy, tyP, ub]
theorem equal_v {p : P} (h : p.sh = true) (hl : p.le 60 = true) (hw : p.wt ≤ LINE) : F__law_equal.v [.fz p, .fz p] = .ok (.fz (.bl true)) o2 := by
  apply vf_ok
  rw [wf__law_equal]
  unfold vb__law_equal
  obtain ⟨s, h1, h2⟩ := repr_ok h hl hw
  simp [ub, hl, eqv_refl 60 p hl, h1]
theorem equal_bl (b : Bool) : F__law_equal.v [.fz (.bl b), .fz (.bl b)] = .ok (.fz (.bl true)) o2 := equal_v (by simp [P.sh]) (by simp) (by simp [P.wt, LINE])
/-- all whole numbers, by the law -/
theorem ints_lcW {n : Nat} {σ : VEnv} {ps : List P} {i : Nat} (h : ps.all (P.le n) = true) (hl : ps.length < LINE) (hi : σ[i]? = some none) :
    lcGoV (Tgt.name i).v (Te.yes (Cx := [])).v (E.call (Cx := []) F__law_whole (arCons (E.var i) arNil)).v [i] ps σ [] = .ok ((ps.map fun p => .bl (isI p)).map .fz) σ := by
  refine lc_fnI _ ps hl fun x hx => ⟨σ.set i (some (.fz x)), rfl, ?_, ?_⟩
  · have hl := (List.getElem?_eq_some_iff.mp hi).1
    have e := whole_v (List.all_eq_true.mp h x hx)
    simp [hl, callK, e]
  · obtain ⟨hl, e⟩ := List.getElem?_eq_some_iff.mp hi
    simp only [wipe_cons, wipe_nil, List.set_set]
    rw [← e]; exact List.set_getElem_self hl
def atZ (ps : List P) (i : Nat) : Int := match ps[i]? with
  | some (.int z) => z
  | _ => 0
/-- a paper of values that keep the bonds -/
def kept (n : Nat) (bs : List Bd) : P → Bool
  | .tup ps => decide (ps.length = n) && (ps.all isI && bs.all fun b => decide (atZ ps b.hi ≤ atZ ps b.lo + b.rm))
  | _ => false
section
variable {n : Nat} {bs : List Bd} (hb : ∀ b, b ∈ bs → b.lo < n ∧ b.hi < n) (hl : bs.length ≤ 300)
include hb hl
theorem kept_lc {σ : VEnv} {ps : List P} (h1 : ps.length = n) (h2 : ps.all isI = true) (hs : σ = [some (.fz (.int n)), some (.fz (.lst (bs.map bP))), some (.fz (.tup ps)), none, none, none, none]) :
    lcGoV (Tgt.tup (Tgts.cons (Tgt.name 4) (Tgts.cons (Tgt.name 5) (Tgts.cons (Tgt.name 6) Tgts.nil)))).v (Te.yes (Cx := [])).v (E.op2 (Cx := []) Le_.op (E.op2 Idx.op (E.var 2) (E.var 5)) (E.op2 Add (E.op2 Idx.op (E.var 2) (E.var 4)) (E.var 6))).v [4, 5, 6] (bs.map bP) σ [] =
      .ok ((bs.map fun b => .bl (decide (atZ ps b.hi ≤ atZ ps b.lo + b.rm))).map .fz) σ := by
  subst hs
  refine lc_fn bP _ bs (by simp [LINE]; omega) fun b hm => ⟨_, rfl, ?_, rfl⟩
  have hbb := hb b hm
  have get : ∀ i, i < n → ps[i]? = some (.int (atZ ps i)) := fun i hi => by
    have e : ps[i]? = some ps[i] := List.getElem?_eq_getElem (by omega)
    have hI := List.all_eq_true.mp h2 _ (List.getElem_mem (show i < ps.length by omega))
    unfold atZ
    rw [e]
    cases hp : ps[i] <;> rw [hp] at hI <;> first | rfl | cases hI
  have g1 := get _ hbb.1
  have g2 := get _ hbb.2
  simp [bP, g1, g2, ub]
theorem kept_v {p : P} (hp : p.le 50 = true) (hz : ∀ qs, p = .tup qs → qs.length < LINE) : F__law_kept.v [.fz (.int n), .fz (.lst (bs.map bP)), .fz p] = .ok (.fz (.bl (kept n bs p))) o3 := by
  apply vf_ok
  rw [wf__law_kept]
  unfold vb__law_kept
  obtain ⟨t, ht⟩ := ok_le hp
  cases p with
  | tup ps =>
    rw [ple_tup] at hp
    have lc := ints_lcW (σ := [some (.fz (.int n)), some (.fz (.lst (bs.map bP))), some (.fz (.tup ps)), none, none, none, none]) (i := 3) hp (hz ps rfl) rfl
    by_cases h1 : ps.length = n
    · cases h2 : ps.all isI with
      | false =>
        have h3 : ∃ x, x ∈ ps ∧ isI x = false := by simpa using h2
        simp [isTy, ub, lc, h1, kept, h2, h3]
      | true =>
        have h3 : ¬ ∃ x, x ∈ ps ∧ isI x = false := by simpa using h2
        have lk := kept_lc hb hl h1 h2 rfl
        simp [isTy, ub, lc, h1, h3]
        unfold lzV
        simp [lk, kept, h1, h2]
    · have h1' : ¬ ((ps.length : Int) = n) := by omega
      simp [isTy, ub, kept, h1, h1']
  | _ => first | (cases ht; done) | (exfalso; simp [P.le] at hp; done) | (simp [isTy, ub, kept])
theorem is_values_v (hn : 0 < n) (hn2 : n ≤ 20) {p : P} (hp : p.le 50 = true) (hz : ∀ qs, p = .tup qs → qs.length < LINE) : F_is_values.v [.fz (.int n), .fz (.lst (bs.map bP)), .fz p] = .ok (.fz (.bl (kept n bs p))) o3 := by
  apply vf_ok
  rw [wf_is_values]
  unfold vb_is_values
  obtain ⟨b1, b2, b3⟩ := bs_ok hb hn hn2 hl
  have hc := check_ok (n := n) (by omega) b1 b3 b2
  simp [callK, hc]
  unfold lzV
  obtain ⟨t, ht⟩ := ok_le hp
  cases p with
  | tup ps =>
    rw [ple_tup] at hp
    have lc := ints_lc (σ := [some (.fz (.int n)), some (.fz (.lst (bs.map bP))), some (.fz (.tup ps)), none, none, none, none]) (i := 3) hp (hz ps rfl) rfl
    by_cases h1 : ps.length = n
    · simp [isTy, ub, h1]
      unfold lzV
      cases h2 : ps.all isI with
      | false =>
        have h3 : ∃ x, x ∈ ps ∧ isI x = false := by simpa using h2
        simp [isTy, ub, lc, h1, kept, h2, h3]
      | true =>
        have h3 : ¬ ∃ x, x ∈ ps ∧ isI x = false := by simpa using h2
        have lk := kept_lc hb hl h1 h2 rfl
        simp [isTy, ub, lc, h1, h3]
        unfold lzV
        simp [lk, kept, h1, h2]
    · have h1' : ¬ ((ps.length : Int) = n) := by omega
      simp [isTy, ub, kept, h1, h1']
  | _ => first | (cases ht; done) | (exfalso; simp [P.le] at hp; done) | (simp [isTy, ub, kept])
end
end K37
end

section
set_option autoImplicit false
set_option linter.all false
set_option maxRecDepth 100000
/-! k37: are_linked, is_closed, _bonds_at, is_bond_ring; _law_is_wheel. -/
namespace K37
open Py
def gB (cs : List Bd) (i : Nat) : Bd := (cs[i]?).getD ⟨0, 0, 0⟩
def lkd (a b : Bd) : Bool := (a.hi : Int) == (b.lo : Int)
def linked (cs : List Bd) : Bool := (List.range (cs.length - 1)).all fun i => lkd (gB cs i) (gB cs (i + 1))
def closed (cs : List Bd) : Bool := !cs.isEmpty && (linked cs && (lkd (gB cs (cs.length - 1)) (gB cs 0) && decide ((cs.map (·.rm)).sum < 0)))
theorem gB_at {cs : List Bd} {i : Nat} (h : i < cs.length) : cs[i]? = some (gB cs i) := by unfold gB; rw [List.getElem?_eq_getElem h]; rfl
theorem linked_v {cs : List Bd} (hl : cs.length < 1000000) : F_are_linked.v [.fz (.lst (cs.map bP))] = .ok (.fz (.bl (linked cs))) o1 := by
  apply vf_ok
  rw [wf_are_linked]
  unfold vb_are_linked
  have sm := small_int (i := cs.length) (by omega) (by omega)
  have s1 := small_int (i := 1) (by omega) (by omega)
  have e : ((cs.length : Int) - 1).toNat = cs.length - 1 := by omega
  have lc : lcGoV (Tgt.name 1).v (Te.yes (Cx := [])).v (E.op2 (Cx := []) Eq_.op (E.op2 Idx.op (E.op2 Idx.op (E.var 0) (E.op2 Sub (E.var 1) (E.int 1))) (E.int 1)) (E.op2 Idx.op (E.op2 Idx.op (E.var 0) (E.var 1)) (E.int 0))).v [1] (rngP 1 (cs.length - 1)) [some (.fz (.lst (cs.map bP))), none] [] =
      .ok (((List.range (cs.length - 1)).map fun i => .bl (lkd (gB cs i) (gB cs (i + 1)))).map .fz) [some (.fz (.lst (cs.map bP))), none] := by
    unfold rngP
    refine lc_fn (fun (k : Nat) => .int (1 + (k : Int))) _ (List.range (cs.length - 1)) (by simp [LINE]; omega) fun k hk => ⟨_, rfl, ?_, rfl⟩
    have hk : k < cs.length - 1 := by simpa using hk
    have e1 : (1 : Int) + k - 1 = k := by omega
    have e2 : (1 : Int) + k = ((k + 1 : Nat) : Int) := by omega
    have a1 := gB_at (show k < cs.length by omega)
    have a3 : atI (cs.map bP) (1 + (k : Int)) = some (bP (gB cs (k + 1))) := by
      rw [e2, atI_nat, List.getElem?_map, gB_at (show k + 1 < cs.length by omega)]; rfl
    simp [e1, a1, a3, bP, ub, lkd]
  simp [sm.1, sm.2, s1.1, s1.2, e, lc, linked]
theorem closed_v {cs : List Bd} (hl : cs.length < 1000000) : F_is_closed.v [.fz (.lst (cs.map bP))] = .ok (.fz (.bl (closed cs))) o1 := by
  apply vf_ok
  rw [wf_is_closed]
  unfold vb_is_closed
  have h0 := linked_v hl
  by_cases he : cs = []
  · subst he
    simp [closed]
  · have hlen : 0 < cs.length := List.length_pos_iff.mpr he
    have ee : (cs.map bP).isEmpty = false := by simp [he]
    have ee' : cs.isEmpty = false := by simp [he]
    have e1 : ((cs.length : Int) - 1) = ((cs.length - 1 : Nat) : Int) := by omega
    have g1 := gB_at (show cs.length - 1 < cs.length by omega)
    have g0 := gB_at hlen
    have lc : lcGoV (Tgt.name 1).v (Te.yes (Cx := [])).v (E.op2 (Cx := []) Idx.op (E.var 1) (E.int 2)).v [1] (cs.map bP) [some (.fz (.lst (cs.map bP))), none] [] =
        .ok ((cs.map fun b => .int b.rm).map .fz) [some (.fz (.lst (cs.map bP))), none] := by
      refine lc_fn bP _ cs (by simp [LINE]; omega) fun b _ => ⟨_, rfl, ?_, rfl⟩
      simp [bP]
    simp [he, callK, h0]
    cases h1 : linked cs with
    | false => simp [closed, h1]
    | true =>
      simp [e1, g0, g1, bP, ub]
      cases h2 : lkd (gB cs (cs.length - 1)) (gB cs 0) with
      | false =>
        have h2' : ¬ ((gB cs (cs.length - 1)).hi : Int) = (gB cs 0).lo := by simpa [lkd] using h2
        simp [h2', closed, h2]
      | true =>
        have h2' : ((gB cs (cs.length - 1)).hi : Int) = (gB cs 0).lo := by simpa [lkd] using h2
        simp [h2', closed, h2, h1, ee']
        unfold lzV
        simp [lc, ub]
end K37
end

section
set_option autoImplicit false
set_option linter.all false
set_option maxRecDepth 100000
/-! k37: _bonds_at, is_bond_ring; _law_is_wheel. -/
namespace K37
open Py
/-- a place among m -/
def plc (m : Nat) : P → Option Nat
  | .int z => if 0 ≤ z ∧ z < m then some z.toNat else none
  | _ => none
def isP (m : Nat) (p : P) : Bool := (plc m p).isSome
def bAt (bs : List Bd) (p : P) : Bd := gB bs ((plc bs.length p).getD 0)
/-- what both sides say of a paper -/
def wheel (bs : List Bd) : P → Bool
  | .lst ps => ps.all (isP bs.length) && closed (ps.map (bAt bs))
  | _ => false
theorem isP_inv {m : Nat} {p : P} (h : isP m p = true) : ∃ k : Nat, k < m ∧ p = .int k ∧ plc m p = some k := by
  unfold isP at h
  cases p with
  | int z =>
    simp only [plc] at h ⊢
    split at h
    · rename_i hz
      obtain ⟨k, rfl⟩ := Int.eq_ofNat_of_zero_le hz.1
      exact ⟨k, by omega, rfl, by rw [if_pos hz]; rfl⟩
    · cases h
  | _ => cases h
theorem isP_int {m : Nat} {z : Int} : isP m (.int z) = (decide (0 ≤ z) && decide (z < m)) := by
  unfold isP
  simp only [plc]
  by_cases h1 : 0 ≤ z <;> by_cases h2 : z < m <;> simp [h1, h2]
section
variable {bs : List Bd} (hl : bs.length ≤ 400)
include hl
theorem bonds_loop {K : Kv} {ps : List P} {y : Option U} (hp : ps.all (P.le 49) = true) (hz : ps.length < 100000) (h1 : ps.all (isP bs.length) = true → ∀ y, K.nx [some (.fz (.lst (bs.map bP))), some (.fz (.lst ps)), some (.own (ps.map fun q => bP (bAt bs q))), y])
    (h2 : ps.all (isP bs.length) = false → ∀ σ, K.rt (.fz .non) σ) : wS (forV (Tgt.name 3).v vw1__bonds_at.v ps [some (.fz (.lst (bs.map bP))), some (.fz (.lst ps)), some (.own []), y]) K := by
  refine forV_by (fun i σ => (∀ j q, j < i → ps[j]? = some q → isP bs.length q = true) ∧ ∃ y, σ = [some (.fz (.lst (bs.map bP))), some (.fz (.lst ps)), some (.own ((ps.take i).map fun q => bP (bAt bs q))), y]) ?_ ?_ ⟨fun j q hj => absurd hj (by omega), y, by simp⟩
  · rintro i q σ hq ⟨hi, y, rfl⟩
    have hm := List.mem_of_getElem? hq
    have hil := (List.getElem?_eq_some_iff.mp hq).1
    refine ⟨_, rfl, ?_⟩
    have e := is_integer_v (List.all_eq_true.mp hp q hm)
    have bad : isP bs.length q = false → ps.all (isP bs.length) = false := fun h => List.all_eq_false.mpr ⟨q, hm, by simp [h]⟩
    cases hI : isI q with
    | false =>
      have e1 : isP bs.length q = false := by cases q <;> first | rfl | cases hI
      simp [callK, e, hI]
      exact h2 (bad e1) _
    | true =>
      obtain ⟨z, rfl⟩ : ∃ z, q = .int z := by cases q <;> first | exact ⟨_, rfl⟩ | cases hI
      cases hP : isP bs.length (.int z) with
      | false =>
        have e2 := h2 (bad hP)
        rw [isP_int] at hP
        by_cases c1 : 0 ≤ z
        · have c2 : ¬ z < (bs.length : Int) := by intro c2; simp [c1, c2] at hP
          simp [callK, e, hI, ub, c1, c2]
          exact e2 _
        · simp [callK, e, hI, ub, c1]
          exact e2 _
      | true =>
        obtain ⟨k, k1, k2, k3⟩ := isP_inv hP
        cases k2
        have g := gB_at (cs := bs) k1
        have hL : i < LINE := by unfold LINE; omega
        have hmn : min i ps.length = i := by omega
        simp [callK, e, hI, ub, k1]
        unfold lzV
        simp [g, hL, hmn]
        refine ⟨fun j r hj hr => ?_, ?_⟩
        · rcases Nat.lt_succ_iff_lt_or_eq.mp hj with hj | rfl
          · exact hi j r hj hr
          · rw [hq] at hr; cases hr; exact hP
        · rw [List.take_add_one, List.getElem?_map, hq]
          simp [bAt, k3]
  · rintro σ ⟨hi, y, rfl⟩
    rw [List.take_length]
    exact h1 (List.all_eq_true.mpr fun q hq => by
      obtain ⟨j, hj⟩ := List.mem_iff_getElem?.mp hq
      exact hi j q (List.getElem?_eq_some_iff.mp hj).1 hj) y
theorem bonds_at_ok {ps : List P} (hp : ps.all (P.le 49) = true) (hz : ps.length < 100000) (h : ps.all (isP bs.length) = true) : F__bonds_at.v [.fz (.lst (bs.map bP)), .fz (.lst ps)] = .ok (.own (ps.map fun q => bP (bAt bs q))) o2 := by
  apply vf_ok
  rw [wf__bonds_at]
  unfold vb__bonds_at
  simp [isTy]
  unfold lzV
  simp [mkLst]
  unfold lzV
  rw [s_seq]
  refine bonds_loop hl hp hz ?_ ?_
  · intro _ y
    unfold lzV
    simp
  · intro h'; rw [h] at h'; cases h'
theorem bonds_at_no {p : P} (hp : p.le 50 = true) (hz : ∀ qs, p = .lst qs → qs.length < 100000) (h : ∀ ps, p = .lst ps → ps.all (isP bs.length) = false) : F__bonds_at.v [.fz (.lst (bs.map bP)), .fz p] = .ok (.fz .non) o2 := by
  apply vf_ok
  rw [wf__bonds_at]
  unfold vb__bonds_at
  obtain ⟨t, ht⟩ := ok_le hp
  cases p with
  | lst ps =>
    rw [ple_lst] at hp
    simp [isTy]
    unfold lzV
    simp [mkLst]
    unfold lzV
    rw [s_seq]
    refine bonds_loop hl hp (hz ps rfl) ?_ ?_
    · intro h'; rw [h ps rfl] at h'; cases h'
    · intro _ σ; rfl
  | _ => first | (cases ht; done) | (exfalso; simp [P.le] at hp; done) | (simp [isTy])
/-- what is_bond_ring answers -/
theorem ring_ask {n : Nat} (hb : ∀ b, b ∈ bs → b.lo < n ∧ b.hi < n) (hn : 0 < n) (hn2 : n ≤ 20) (hl3 : bs.length ≤ 300) {p : P} (hp : p.le 50 = true) (hz : ∀ qs, p = .lst qs → qs.length < 100000) :
    F_is_bond_ring.v [.fz (.int n), .fz (.lst (bs.map bP)), .fz p] = .ok (.fz (.bl (wheel bs p))) o3 := by
  apply vf_ok
  rw [wf_is_bond_ring]
  unfold vb_is_bond_ring
  obtain ⟨b1, b2, b3⟩ := bs_ok hb hn hn2 hl3
  have hc := check_ok (n := n) (by omega) b1 b3 b2
  simp [callK, hc]
  unfold lzV
  by_cases h : ∃ ps, p = .lst ps ∧ ps.all (isP bs.length) = true
  · obtain ⟨ps, rfl, h⟩ := h
    have hz := hz ps rfl
    rw [ple_lst] at hp
    have e := bonds_at_ok hl hp hz h
    have e2 := closed_v (cs := ps.map (bAt bs)) (by simp; omega)
    rw [List.map_map] at e2
    have e3 : (List.map (fun q => bP (bAt bs q)) ps) = List.map (bP ∘ bAt bs) ps := rfl
    rw [e3] at e
    simp [callK, e]
    unfold lzV
    simp [ub, callK, e2, wheel, h]
  · have h' : ∀ ps, p = .lst ps → ps.all (isP bs.length) = false := fun ps e => by
      cases hh : ps.all (isP bs.length) with
      | false => rfl
      | true => exact absurd ⟨ps, e, hh⟩ h
    have e := bonds_at_no hl hp hz h'
    have hw : wheel bs p = false := by
      cases p with
      | lst ps => simp only [wheel]; rw [h' ps rfl]; rfl
      | _ => rfl
    simp [callK, e]
    unfold lzV
    simp [ub, hw]
end
end K37
end

section
set_option autoImplicit false
set_option linter.all false
set_option maxRecDepth 100000
/-! k37: _law_is_wheel. -/
namespace K37
open Py
/-- round about: each behind the one before it, the first behind the last -/
def roundB (cs : List Bd) : Bool := (List.range cs.length).all fun k => lkd (gB cs (if k = 0 then cs.length - 1 else k - 1)) (gB cs k)
theorem round_eq {cs : List Bd} (h : cs ≠ []) : roundB cs = (linked cs && lkd (gB cs (cs.length - 1)) (gB cs 0)) := by
  obtain ⟨m, hm⟩ : ∃ m, cs.length = m + 1 := ⟨cs.length - 1, by have := List.length_pos_iff.mpr h; omega⟩
  unfold roundB linked
  rw [hm, List.range_succ_eq_map, List.all_cons, List.all_map, Bool.and_comm]
  simp only [Nat.add_sub_cancel, if_pos]
  congr 1
section
variable {bs : List Bd} (hl : bs.length ≤ 400)
include hl
theorem wheel_v {p : P} (hp : p.le 50 = true) (hz : ∀ qs, p = .lst qs → qs.length < 100000) : F__law_is_wheel.v [.fz (.lst (bs.map bP)), .fz p] = .ok (.fz (.bl (wheel bs p))) o2 := by
  apply vf_ok
  rw [wf__law_is_wheel]
  unfold vb__law_is_wheel
  obtain ⟨t, ht⟩ := ok_le hp
  cases p with
  | lst ps =>
    have hz := hz ps rfl
    rw [ple_lst] at hp
    by_cases he : ps = []
    · subst he
      simp [isTy, wheel, closed]
    · simp [isTy, he]
      unfold lzV
      rw [s_seq]
      simp
      refine for_all1 (Y := Option U) (fun y => [some (.fz (.lst (bs.map bP))), some (.fz (.lst ps)), y, none]) (isP bs.length) (.fz (.bl false)) ps ?_ none ?_ ?_
      · rintro y q hm
        refine ⟨_, rfl, ?_⟩
        have e := whole_v (List.all_eq_true.mp hp q hm)
        cases hI : isI q with
        | false =>
          have e1 : isP bs.length q = false := by cases q <;> first | rfl | cases hI
          simp [callK, e, hI, e1]
        | true =>
          obtain ⟨z, rfl⟩ : ∃ z, q = .int z := by cases q <;> first | exact ⟨_, rfl⟩ | cases hI
          rw [isP_int]
          by_cases c1 : 0 ≤ z
          · by_cases c2 : z < (bs.length : Int)
            · simp [callK, e, hI, ub, c1, c2]
            · simp [callK, e, hI, ub, c1, c2]
          · simp [callK, e, hI, ub, c1]
      · intro h y
        have sm := small_int (i := ps.length) (by omega) (by omega)
        obtain ⟨cs, hcs⟩ : ∃ cs, cs = ps.map (bAt bs) := ⟨_, rfl⟩
        have hcl : cs.length = ps.length := by simp [hcs]
        have hlen : 0 < ps.length := List.length_pos_iff.mpr he
        have at_ : ∀ i, i < ps.length → ∃ k : Nat, k < bs.length ∧ ps[i]? = some (.int k) ∧ bs[k]? = some (gB cs i) := fun i hi => by
          have e : ps[i]? = some ps[i] := List.getElem?_eq_getElem hi
          obtain ⟨k, k1, k2, k3⟩ := isP_inv (List.all_eq_true.mp h _ (List.getElem_mem hi))
          refine ⟨k, k1, by rw [e, k2], ?_⟩
          have : gB cs i = bAt bs ps[i] := by simp [hcs, gB, hi]
          rw [this]
          unfold bAt
          rw [k3]
          exact gB_at k1
        have hw : wheel bs (.lst ps) = (roundB cs && decide ((cs.map (·.rm)).sum < 0)) := by
          have hne : cs ≠ [] := by intro z; rw [z] at hcl; simp at hcl; omega
          rw [round_eq hne]
          have : cs.isEmpty = false := by simp [hne]
          simp only [wheel, h, Bool.true_and]
          rw [← hcs]
          unfold closed
          rw [this]
          simp only [Bool.not_false, Bool.true_and, Bool.and_assoc]
        unfold lzV
        simp [sm.1, sm.2]
        unfold rngP
        refine for_all (Y := Option U) (fun (k : Nat) => .int (0 + (k : Int))) (fun z => [some (.fz (.lst (bs.map bP))), some (.fz (.lst ps)), y, z]) (fun k => lkd (gB cs (if k = 0 then cs.length - 1 else k - 1)) (gB cs k)) (.fz (.bl false)) (List.range ps.length) ?_ none ?_ ?_
        · intro z k hk
          have hk : k < ps.length := by simpa using hk
          refine ⟨_, rfl, ?_⟩
          obtain ⟨a, a1, a2, a3⟩ := at_ k hk
          have prev : ∃ b : Nat, b < bs.length ∧ atI ps (0 + (k : Int) - 1) = some (.int b) ∧ bs[b]? = some (gB cs (if k = 0 then cs.length - 1 else k - 1)) := by
            by_cases hk0 : k = 0
            · subst hk0
              obtain ⟨b, b1, b2, b3⟩ := at_ (ps.length - 1) (by omega)
              refine ⟨b, b1, ?_, by rw [if_pos rfl, hcl]; exact b3⟩
              rw [← b2]
              unfold atI ix
              rw [if_neg (by omega), if_pos (by omega)]
              show ps[_]? = _
              congr 1; omega
            · obtain ⟨b, b1, b2, b3⟩ := at_ (k - 1) (by omega)
              refine ⟨b, b1, ?_, by rw [if_neg hk0]; exact b3⟩
              rw [show (0 : Int) + k - 1 = ((k - 1 : Nat) : Int) by omega, atI_nat]; exact b2
          obtain ⟨b, b1, b2, b3⟩ := prev
          simp at b2
          simp [a2, a3, b2, b3, ub, bP, lkd]
        · intro h1 z
          have lc : lcGoV (Tgt.name 2).v (Te.yes (Cx := [])).v (E.op2 (Cx := []) Idx.op (E.op2 Idx.op (E.var 0) (E.var 2)) (E.int 2)).v [2] ps [some (.fz (.lst (bs.map bP))), some (.fz (.lst ps)), none, z] [] =
              .ok ((ps.map fun q => .int (bAt bs q).rm).map .fz) [some (.fz (.lst (bs.map bP))), some (.fz (.lst ps)), none, z] := by
            refine lc_fnI _ ps (by unfold LINE; omega) fun q hq => ⟨_, rfl, ?_, rfl⟩
            obtain ⟨k, k1, k2, k3⟩ := isP_inv (List.all_eq_true.mp h q hq)
            subst k2
            have g := gB_at (cs := bs) k1
            simp [g, bP, bAt, k3]
          have hr : roundB cs = true := by rw [← hcl] at h1; exact h1
          unfold lzV
          have hsum : (cs.map (·.rm)).sum = (ps.map fun q => (bAt bs q).rm).sum := by rw [hcs, List.map_map]; rfl
          simp [lc, ub, hw, hr, hsum]
        · intro h1 z
          have hr : roundB cs = false := by rw [← hcl] at h1; exact h1
          simp [hw, hr]
      · intro h y
        simp [wheel, h]
  | _ => first | (cases ht; done) | (exfalso; simp [P.le] at hp; done) | (simp [isTy, wheel])
end
end K37
end

section
set_option autoImplicit false
set_option linter.all false
set_option maxRecDepth 100000
/-! k37: _law_is_greatest; the loops over papers. -/
namespace K37
open Py
theorem maxI_mem : ∀ {is : List Int} {m : Int}, maxI is = some m → m ∈ is
  | [], m, h => by cases h
  | i :: r, m, h => by
    unfold maxI at h
    split at h
    · cases h; simp
    · rename_i k hk
      cases h
      split
      · exact List.mem_cons_of_mem _ (maxI_mem hk)
      · simp
theorem maxI_some {is : List Int} (h : is ≠ []) : ∃ m, maxI is = some m := by
  cases is with
  | nil => exact absurd rfl h
  | cons i r => unfold maxI; cases maxI r <;> exact ⟨_, rfl⟩
def dP (n : Nat) (d : Nat → Bool) : List P := (List.range n).map fun i => .bl (d i)
def iP (n : Nat) (v : Nat → Int) : List P := (List.range n).map fun i => .int (v i)
section
variable {n : Nat} {bs : List Bd} (hb : ∀ b, b ∈ bs → b.lo < n ∧ b.hi < n) (hl : bs.length ≤ 300) (hn : 0 < n) (hn2 : n ≤ 20) {v : Nat → Int}
include hb
theorem dpass_v {K : Kv} (d : Nat → Bool) (k : Option U) (y : Option U × Option U × Option U) (h : ∀ y : Option U × Option U × Option U, K.nx [some (.fz (.lst (bs.map bP))), some (.fz (.tup (iP n v))), some (.own (dP n (dpass bs v d))), k, y.1, y.2.1, y.2.2, none]) :
    wS (vw2__law_is_greatest.v [some (.fz (.lst (bs.map bP))), some (.fz (.tup (iP n v))), some (.own (dP n d)), k, y.1, y.2.1, y.2.2, none]) K := by
  simp
  refine for_foldI (Y := Option U × Option U × Option U) (fun _ => True) bP (fun d y => [some (.fz (.lst (bs.map bP))), some (.fz (.tup (iP n v))), some (.own (dP n d)), k, y.1, y.2.1, y.2.2, none]) (dstep v) bs (fun _ _ _ _ => trivial) ?_ d y trivial h
  intro d y b hm _
  have hbb := hb b hm
  refine ⟨_, rfl, ?_⟩
  have e1 : (dP n d)[b.lo]? = some (.bl (d b.lo)) := by simp [dP, hbb.1]
  have e2 : (iP n v)[b.lo]? = some (.int (v b.lo)) := by simp [iP, hbb.1]
  have e3 : (iP n v)[b.hi]? = some (.int (v b.hi)) := by simp [iP, hbb.2]
  have e4 : ix (dP n d).length (b.hi : Int) = some b.hi := ix_nat (by simp [dP]; exact hbb.2)
  have e5 : (dP n d).set b.hi (.bl true) = dP n (fup d b.hi true) := by
    unfold dP
    rw [range_set]
    congr 1; funext i
    by_cases e : i = b.hi <;> simp [fup, e]
  unfold dstep
  cases hd : d b.lo with
  | false => simp [bP, e1, hd]
  | true =>
    by_cases ht : v b.hi = v b.lo + b.rm
    · simp [bP, e1, e2, e3, hd, ht, ub, e4, e5]
    · simp [bP, e1, e2, e3, hd, ht, ub]
include hl hn hn2
theorem greatest_v (h0 : ∀ i, v i ≤ 0) (hd : ∀ i, i < n → dk bs v n i = true) : F__law_is_greatest.v [.fz (.lst (bs.map bP)), .fz (.tup (iP n v))] = .ok (.fz (.bl true)) o2 := by
  apply vf_ok
  rw [wf__law_is_greatest]
  unfold vb__law_is_greatest
  have lc : lcGoV (Tgt.name 7).v (Te.yes (Cx := [])).v (E.op2 (Cx := []) Eq_.op (E.var 7) (E.int 0)).v [7] (iP n v) [some (.fz (.lst (bs.map bP))), some (.fz (.tup (iP n v))), none, none, none, none, none, none] [] =
      .ok ((dP n (dk bs v 0)).map .fz) [some (.fz (.lst (bs.map bP))), some (.fz (.tup (iP n v))), none, none, none, none, none, none] := by
    have := lc_fn (t := (Tgt.name 7).v) (e := (E.op2 (Cx := []) Eq_.op (E.var 7) (E.int 0)).v) (own := [7]) (σ := [some (.fz (.lst (bs.map bP))), some (.fz (.tup (iP n v))), none, none, none, none, none, none]) (fun i => P.int (v i)) (fun i => P.bl (dk bs v 0 i)) (List.range n) (by simp [LINE]; omega) fun k hk => ⟨_, rfl, ?_, rfl⟩
    · exact this
    · simp [ub, dk]
      by_cases h : v k = 0 <;> simp [h]
  have hlen : (iP n v).length = n := by simp [iP]
  have sm := small_int (i := n) (by omega) (by omega)
  simp [lc]
  unfold lzV
  simp [hlen, sm.1, sm.2]
  refine forV_by (fun i σ => ∃ k, ∃ y : Option U × Option U × Option U, σ = [some (.fz (.lst (bs.map bP))), some (.fz (.tup (iP n v))), some (.own (dP n (dk bs v i))), k, y.1, y.2.1, y.2.2, none]) ?_ ?_ ⟨none, (none, none, none), rfl⟩
  · rintro i p σ hp ⟨k, y, rfl⟩
    exact ⟨_, rfl, dpass_v hb _ _ y fun y => ⟨_, y, rfl⟩⟩
  · rintro σ ⟨k, y, rfl⟩
    have e : (rngP 0 n).length = n := by simp [rngP]
    rw [e]
    have e2 : dP n (dk bs v n) = (List.range n).map fun i => P.bl (dk bs v n i) := rfl
    have hI : allIP (iP n v) = some ((List.range n).map v) := allIP_map v _
    have hB : allBP (dP n (dk bs v n)) = some ((List.range n).map (dk bs v n)) := allBP_map _ _
    obtain ⟨m, hm⟩ := maxI_some (is := (List.range n).map v) (by intro z; have := congrArg List.length z; simp at this; omega)
    have hm0 : m ≤ 0 := by
      obtain ⟨i, _, rfl⟩ := List.mem_map.mp (maxI_mem hm)
      exact h0 i
    have hall : ∀ x, x < n → dk bs v n x = true := hd
    unfold lzV
    simp [hB, hI, hm, ub, hm0]
    exact hall
end
end K37
end

section
set_option autoImplicit false
set_option linter.all false
set_option maxRecDepth 100000
/-! k37: the loops over papers. -/
namespace K37
open Py
/-- a paper that may be asked -/
structure Gp (p : P) : Prop where
  le : p.le 50 = true
  tz : ∀ qs, p = .tup qs → qs.length < 100000
  lz : ∀ qs, p = .lst qs → qs.length < 100000
section
variable {n : Nat} {bs : List Bd} (hb : ∀ b, b ∈ bs → b.lo < n ∧ b.hi < n) (hl : bs.length ≤ 300) (hn : 0 < n) (hn2 : n ≤ 20)
include hb hl hn hn2
theorem ask_values_v {ps : List P} (hp : ∀ p, p ∈ ps → Gp p) : F__law_ask_values.v [.fz (.int n), .fz (.lst (bs.map bP)), .fz (.lst ps)] = .ok (.fz (.bl true)) o3 := by
  apply vf_ok
  rw [wf__law_ask_values]
  unfold vb__law_ask_values
  simp
  refine for_all1 (Y := Option U) (fun y => [some (.fz (.int n)), some (.fz (.lst (bs.map bP))), some (.fz (.lst ps)), y]) (fun _ => true) (.fz (.bl false)) ps ?_ none ?_ ?_
  · intro y p hm
    have g := hp p hm
    refine ⟨_, rfl, ?_⟩
    have hz : ∀ qs, p = .tup qs → qs.length < LINE := fun qs e => by have := g.tz qs e; unfold LINE; omega
    have e1 := is_values_v hb hl hn hn2 g.le hz
    have e2 := kept_v hb hl g.le hz
    have e3 := equal_bl (kept n bs p)
    simp [callK, e1, e2, e3]
  · intro _ y
    unfold lzV
    simp
  · intro h; simp at h
theorem ask_wheels_v {ps : List P} (hp : ∀ p, p ∈ ps → Gp p) : F__law_ask_wheels.v [.fz (.int n), .fz (.lst (bs.map bP)), .fz (.lst ps)] = .ok (.fz (.bl true)) o3 := by
  apply vf_ok
  rw [wf__law_ask_wheels]
  unfold vb__law_ask_wheels
  simp
  refine for_all1 (Y := Option U × Option U × Option U) (fun y => [some (.fz (.int n)), some (.fz (.lst (bs.map bP))), some (.fz (.lst ps)), y.1, y.2.1, y.2.2]) (fun _ => true) (.fz (.bl false)) ps ?_ (none, none, none) ?_ ?_
  · rintro ⟨y1, y2, y3⟩ p hm
    have g := hp p hm
    refine ⟨_, rfl, ?_⟩
    have e1 := ring_ask (show bs.length ≤ 400 by omega) hb hn hn2 hl g.le g.lz
    have e2 := wheel_v (show bs.length ≤ 400 by omega) g.le g.lz
    have e3 := equal_bl (wheel bs p)
    have e4 := eqv_refl 60 p (le_up (by decide) g.le)
    have e5 : p.le 60 = true := le_up (by decide) g.le
    obtain ⟨t, ht⟩ := ok_le g.le
    simp
    unfold lzV
    simp [ht]
    cases hty : isTy .list t with
    | false =>
      simp
      unfold lzV
      simp [callK, e2]
      unfold lzV
      simp [callK, e1, e3, e4, e5, ub]
    | true =>
      obtain ⟨qs, rfl⟩ : ∃ qs, p = .lst qs := by
        have le := g.le
        cases p <;> first | exact ⟨_, rfl⟩ | (cases ht; cases hty; done) | (exfalso; simp [P.le] at le; done)
      simp
      unfold lzV
      simp [callK, e2]
      unfold lzV
      simp [callK, e1, e3, ub]
      exact ⟨by rw [ple_lst, List.all_eq_true] at e5; exact e5, e4⟩
  · intro _ y
    unfold lzV
    simp
  · intro h; simp at h
end
end K37
end

section
set_option autoImplicit false
set_option linter.all false
set_option maxRecDepth 100000
/-! k37: _law_numbers, _law_digits. -/
namespace K37
open Py
theorem mul_r {i j : Int} (h : -18446744073709551616 < j ∧ j < 18446744073709551616) : mulOk i j = true := by
  unfold mulOk
  rw [Bool.or_eq_true, Bool.or_eq_true]
  exact .inr (.inr (decide_eq_true h))
theorem mul_l {i j : Int} (h : -18446744073709551616 < i ∧ i < 18446744073709551616) : mulOk i j = true := by
  unfold mulOk
  rw [Bool.or_eq_true, Bool.or_eq_true]
  exact .inr (.inl (decide_eq_true h))
theorem p18 : powOk 10 18 = true := by decide
theorem p61 : powOk 2 61 = true := by decide
theorem p30 : powOk 10 30 = true := by decide
theorem p29 : powOk 10 29 = true := by decide
theorem p20 : powOk 10 20 = true := by decide
theorem p31 : powOk 10 31 = true := by decide
theorem num_cell {K : Kv} {i : Nat} {sc : P} {ex cell : Int} {ns : List Int} {y6 y7 : Option U} (hns : ns.length = i) (hi : i < 48)
    (h : ∀ (ns : List Int) (y4 y5 y6 y7 : Option U), ns.length = i + 1 → K.nx [some (.fz sc), some (.fz (.int 48)), some (.fz (.int ex)), some (.own (ns.map .int)), y4, y5, y6, y7]) :
    wS (vq3__law_numbers.v [some (.fz sc), some (.fz (.int 48)), some (.fz (.int ex)), some (.own (ns.map .int)), some (.fz (.int i)), some (.fz (.int cell)), y6, y7]) K := by
  have m1 : mulOk cell 6364136223846793005 = true := mul_r (by omega)
  have m2 : mulOk ((i : Int) + 1) 1442695040888963407 = true := mul_r (by omega)
  have m3 : mulOk cell 3935559000370003845 = true := mul_r (by omega)
  simp [m1, m2, p61]
  unfold lzV
  generalize hone : (cell * 6364136223846793005 + ((i : Int) + 1) * 1442695040888963407) % 2305843009213693951 = one
  have h1 : 0 ≤ one ∧ one < 2305843009213693951 := by
    rw [← hone]
    exact ⟨Int.emod_nonneg _ (by omega), Int.emod_lt_of_pos _ (by omega)⟩
  have m4 : mulOk one one = true := mul_l (by omega)
  have m5 : mulOk one 2305843009213693951 = true := mul_l (by omega)
  simp [m3, m4, p61]
  unfold lzV
  have hL : i < LINE := by unfold LINE; omega
  by_cases hc : (1000000000000000000 : Int) ≤ cell
  · simp [p18, ub, hc, hns, hL]
    exact (by simpa using h (ns ++ [cell - 1000000000000000000]) _ _ _ _ (by simp [hns]))
  · simp [p18, p61, ub, hc, hns, hL, m5]
    have := h (ns ++ [(one * one + cell * 3935559000370003845 + i) % 2305843009213693951 + one * 2305843009213693951]) (some (.fz (.int i))) (some (.fz (.int cell))) (some (.fz (.int one))) (some (.fz (.int ((one * one + cell * 3935559000370003845 + i) % 2305843009213693951)))) (by simp [hns])
    simpa using this
theorem numbers_v (is : List Int) : ∃ ns : List Int, ns.length = 48 ∧ F__law_numbers.v [.fz (.scr (is.map .int)), .fz (.int 48)] = .ok (.own (ns.map .int)) o2 := by
  suffices h : wF (F__law_numbers.v [.fz (.scr (is.map .int)), .fz (.int 48)]) (fun u o => o = o2 ∧ ∃ ns : List Int, ns.length = 48 ∧ u = .own (ns.map .int)) fun _ _ => False by
    obtain ⟨u, o, h1, rfl, ns, h2, rfl⟩ := vf_ex h
    exact ⟨ns, h2, h1⟩
  rw [wf__law_numbers]
  unfold vb__law_numbers
  obtain ⟨js, hjs⟩ : ∃ js : List Int, cut (is.map P.int) none (some 63) = js.map .int := ⟨cut is none (some 63), by simp [cut, List.map_drop, List.map_take]⟩
  have hjl : js.length < LINE := by
    have : js.length ≤ 63 := by
      have := congrArg List.length hjs
      simp [cut, sIx] at this
      omega
    unfold LINE; omega
  have lc : lcGoV (Tgt.name 5).v (Te.yes (Cx := [])).v (E.op2 (Cx := []) Mod (E.op1 Int_.op (E.var 5)) (E.int 1000003)).v [5] (js.map .int) [some (.fz (.scr (is.map .int))), some (.fz (.int 48)), none, none, none, none, none, none] [] =
      .ok ((js.map fun j => .int (j % 1000003)).map .fz) [some (.fz (.scr (is.map .int))), some (.fz (.int 48)), none, none, none, none, none, none] := by
    refine lc_fn P.int _ js hjl fun j _ => ⟨_, rfl, ?_, rfl⟩
    simp
  have sm := small_int (i := 48) (by omega) (by omega)
  simp [hjs, lc]
  unfold lzV
  simp [mkLst]
  unfold lzV
  simp [sm.1, sm.2]
  generalize (js.map fun j => j % 1000003).sum = ex
  refine forV_by (fun i σ => ∃ ns : List Int, ns.length = i ∧ ∃ y : Option U × Option U × Option U × Option U, σ = [some (.fz (.scr (is.map .int))), some (.fz (.int 48)), some (.fz (.int ex)), some (.own (ns.map .int)), y.1, y.2.1, y.2.2.1, y.2.2.2]) ?_ ?_ ⟨[], rfl, (none, none, none, none), rfl⟩
  · rintro i p σ hp ⟨ns, hns, y, rfl⟩
    have hp' : i < 48 ∧ p = .int i := by
      unfold rngP at hp
      rw [List.getElem?_map, Option.map_eq_some_iff] at hp
      obtain ⟨k, h1, rfl⟩ := hp
      obtain ⟨h2, h3⟩ := List.getElem?_eq_some_iff.mp h1
      simp at h2 h3
      subst h3
      exact ⟨by simpa using h2, by simp⟩
    obtain ⟨hi, rfl⟩ := hp'
    refine ⟨_, rfl, ?_⟩
    have m1 : mulOk 31 (i : Int) = true := mul_l (by omega)
    have fin : ∀ (ns : List Int) (y4 y5 y6 y7 : Option U), ns.length = i + 1 → ∃ ns' : List Int, ns'.length = i + 1 ∧ ∃ a b c d : Option U, [some (U.fz (.scr (is.map .int))), some (.fz (.int 48)), some (.fz (.int ex)), some (.own (ns.map .int)), y4, y5, y6, y7] = [some (.fz (.scr (is.map .int))), some (.fz (.int 48)), some (.fz (.int ex)), some (.own (ns'.map .int)), a, b, c, d] := fun ns y4 y5 y6 y7 h => ⟨ns, h, y4, y5, y6, y7, rfl⟩
    simp [m1]
    unfold lzV
    by_cases hl : (i : Int) < is.length
    · have hl' : i < is.length := by omega
      have e : (is.map P.int)[i]? = some (.int is[i]) := by simp [hl']
      simp [ub, hl, hl']
      unfold lzV
      exact num_cell hns hi fin
    · simp [ub, hl]
      unfold lzV
      exact num_cell hns hi fin
  · rintro σ ⟨ns, hns, y, rfl⟩
    unfold lzV
    simp
    exact ⟨ns, by rw [hns]; simp [rngP], rfl⟩
/-- digits by bases -/
def digs : Int → List Int → List Int
  | _, [] => []
  | z, b :: r => z % b :: digs (z / b) r
theorem digs_len : ∀ (bs : List Int) (z : Int), (digs z bs).length = bs.length
  | [], _ => rfl
  | b :: r, z => by simp [digs, digs_len r]
theorem digits_v {z : Int} {bases : List Int} (hb : ∀ b ∈ bases, 0 < b ∧ b.natAbs.log2 < 9000) (hl : bases.length < 1000) : F__law_digits.v [.fz (.int z), .fz (.lst (bases.map .int))] = .ok (.own ((digs z bases).map .int)) o2 := by
  apply vf_ok
  rw [wf__law_digits]
  unfold vb__law_digits
  simp [mkLst]
  unfold lzV
  simp
  have key : ∀ (K : Kv) (al : P) (bases : List Int) (z : Int) (acc : List Int) (y : Option U), (∀ b ∈ bases, 0 < b ∧ b.natAbs.log2 < 9000) → acc.length + bases.length < 1000 →
      (∀ (z' : Int) (y : Option U), K.nx [some (.fz (.int z')), some (.fz al), some (.own ((acc ++ digs z bases).map .int)), y]) → wS (forV (Tgt.name 3).v vw1__law_digits.v (bases.map P.int) [some (.fz (.int z)), some (.fz al), some (.own (acc.map .int)), y]) K := by
    intro K al bases
    induction bases with
    | nil =>
      intro z acc y _ _ q
      simpa [forV, digs] using q z y
    | cons b r ih =>
      intro z acc y h1 h2 q
      obtain ⟨h3, h4⟩ := h1 b (by simp)
      simp only [List.length_cons] at h2
      have hL : acc.length < LINE := by unfold LINE; omega
      have body : vw1__law_digits.v [some (.fz (.int z)), some (.fz al), some (.own (acc.map .int)), some (.fz (.int b))] = .next [some (.fz (.int (z / b))), some (.fz al), some (.own ((acc ++ [z % b]).map .int)), some (.fz (.int b))] := by
        show seqV _ _ _ = _
        unfold seqV
        simp [h3, h4, hL]
      simp only [List.map_cons, forV]
      show wS (match vw1__law_digits.v [some (.fz (.int z)), some (.fz al), some (.own (acc.map .int)), some (.fz (.int b))] with | .next σ2 => _ | .cont σ2 => _ | .brk σ2 => _ | r => r) K
      rw [body]
      refine ih (z / b) (acc ++ [z % b]) _ (fun c hc => h1 c (by simp [hc])) (by simp; omega) fun z' y => ?_
      have := q z' y
      simpa [digs] using this
  refine key _ _ bases z [] none hb (by simpa using hl) fun z' y => ?_
  unfold lzV
  simp
end K37
end

section
set_option autoImplicit false
set_option linter.all false
set_option maxRecDepth 100000
/-! k37: _law_values, _law_bonds. -/
namespace K37
open Py
theorem cut_to {α : Type} (xs : List α) (n : Nat) : cut xs none (some (n : Int)) = xs.take n := by
  have h : ¬ ((n : Int) < 0) := by omega
  simp [cut, sIx, h]
theorem cut_from {α : Type} (xs : List α) {n : Nat} (h : n ≤ xs.length) : cut xs (some (n : Int)) none = xs.drop n := by
  have h' : ¬ ((n : Int) < 0) := by omega
  simp [cut, sIx, h', Nat.min_eq_left h]
  exact List.take_of_length_le (by simp)
theorem values_v {ns : List Int} {n : Nat} (h1 : ns.length = 48) (h2 : n ≤ 20) : ∃ pl : List Int, pl.length = n ∧ F__law_values.v [.fz (.lst (ns.map .int)), .fz (.int n)] = .ok (.own (pl.map .int)) o2 := by
  have d1 := digits_v (z := ns[3]'(by omega)) (bases := [100, 100, 100, 100, 100, 100, 100, 100, 100, 100]) (by decide) (by decide)
  have d2 := digits_v (z := ns[4]'(by omega)) (bases := [100, 100, 100, 100, 100, 100, 100, 100, 100, 10 ^ 30]) (by decide) (by decide)
  generalize e1 : digs (ns[3]'(by omega)) [100, 100, 100, 100, 100, 100, 100, 100, 100, 100] = a1 at *
  generalize e2 : digs (ns[4]'(by omega)) [100, 100, 100, 100, 100, 100, 100, 100, 100, 10 ^ 30] = a2 at *
  have l1 : a1.length = 10 := by rw [← e1, digs_len]; rfl
  have l2 : a2.length = 10 := by rw [← e2, digs_len]; rfl
  refine ⟨(a1 ++ a2).take n, by simp; omega, vf_ok ?_⟩
  rw [wf__law_values]
  unfold vb__law_values
  have g3 : (ns.map P.int)[3]? = some (.int (ns[3]'(by omega))) := by simp [show 3 < ns.length by omega]
  have g4 : (ns.map P.int)[4]? = some (.int (ns[4]'(by omega))) := by simp [show 4 < ns.length by omega]
  simp at d1 d2
  have i3 : atI (ns.map P.int) 3 = some (.int (ns[3]'(by omega))) := by rw [← g3]; exact atI_nat _ 3
  have i4 : atI (ns.map P.int) 4 = some (.int (ns[4]'(by omega))) := by rw [← g4]; exact atI_nat _ 4
  simp [i3, callK, d1, mkLst, LINE]
  unfold lzV
  simp [i4, callK, d2, mkLst, LINE, p30, l1, l2]
  unfold lzV
  rw [← List.map_append]
  simp [cut_to]
structure GB (n : Nat) (pl : List Int) (md : Int) (bs : List Bd) : Prop where
  lt : ∀ b, b ∈ bs → b.lo < n ∧ b.hi < n
  kp : md < 4 → ∀ b, b ∈ bs → pl.getD b.hi 0 ≤ pl.getD b.lo 0 + b.rm
theorem bond_at {ns : List Int} (h1 : ns.length = 48) {k : Nat} : atI (ns.map P.int) (8 + (k : Int) % 40) = some (.int (ns.getD (8 + k % 40) 0)) := by
  rw [show (8 : Int) + (k : Int) % 40 = ((8 + k % 40 : Nat) : Int) by omega, atI_nat, List.getElem?_map, List.getD_eq_getElem?_getD]
  rw [List.getElem?_eq_getElem (by omega)]; rfl
theorem log_small {b : Int} (h0 : 0 ≤ b) (h : b < 1000000) : b.natAbs.log2 < 9000 := by
  by_cases hz : b.natAbs = 0
  · rw [hz]; decide
  · have : b.natAbs.log2 < 20 := by
      rw [Nat.log2_lt hz]
      have : (2 : Nat) ^ 20 = 1048576 := by decide
      omega
    omega
theorem bond_cell {K : Kv} {n : Nat} {md num : Int} {pl : List Int} {sc s2 : Option U} {bs : List Bd} {pu : U} {y6 y8 y9 y10 y11 : Option U} (hn : 0 < n) (h2 : n ≤ 20) (hbl : bs.length < 300) (hpl : pl.length = n) (hpc : pu = .own (pl.map .int) ∨ pu = .fz (.lst (pl.map .int)))
    (h : ∀ (b : Bd) (p : U) (y6 y7 y8 y9 y10 y11 : Option U), b.lo < n → b.hi < n → (md < 4 → pl.getD b.hi 0 ≤ pl.getD b.lo 0 + b.rm) → (p = .own (pl.map .int) ∨ p = .fz (.lst (pl.map .int))) → K.nx [sc, some (.fz (.int n)), s2, some (.fz (.int md)), some p, some (.own ((bs ++ [b]).map bP)), y6, y7, y8, y9, y10, y11]) :
    wS (vq4__law_bonds.v [sc, some (.fz (.int n)), s2, some (.fz (.int md)), some pu, some (.own (bs.map bP)), y6, some (.fz (.int num)), y8, y9, y10, y11]) K := by
  have dg := digits_v (z := num) (bases := [(n : Int), n, 4, 13, 10 ^ 30]) (fun b hb => by
    simp at hb
    rcases hb with rfl | rfl | rfl | rfl
    · exact ⟨by omega, log_small (by omega) (by omega)⟩
    · decide
    · decide
    · decide) (by simp)
  simp only [digs, List.map_cons, List.map_nil] at dg
  generalize e0 : num % (n : Int) = d0 at dg
  generalize e1 : num / (n : Int) % (n : Int) = d1 at dg
  generalize e2 : num / (n : Int) / (n : Int) % 4 = d2 at dg
  generalize e3 : num / (n : Int) / (n : Int) / 4 % 13 = d3 at dg
  generalize e4 : num / (n : Int) / (n : Int) / 4 / 13 % 10 ^ 30 = d4 at dg
  have b0 : 0 ≤ d0 ∧ d0 < n := by rw [← e0]; exact ⟨Int.emod_nonneg _ (by omega), Int.emod_lt_of_pos _ (by omega)⟩
  have b1 : 0 ≤ d1 ∧ d1 < n := by rw [← e1]; exact ⟨Int.emod_nonneg _ (by omega), Int.emod_lt_of_pos _ (by omega)⟩
  have b2 : 0 ≤ d2 ∧ d2 < 4 := by rw [← e2]; exact ⟨Int.emod_nonneg _ (by omega), Int.emod_lt_of_pos _ (by omega)⟩
  have b3 : 0 ≤ d3 := by rw [← e3]; exact Int.emod_nonneg _ (by omega)
  obtain ⟨lo, rfl⟩ := Int.eq_ofNat_of_zero_le b0.1
  obtain ⟨hi, rfl⟩ := Int.eq_ofNat_of_zero_le b1.1
  obtain ⟨k2, rfl⟩ := Int.eq_ofNat_of_zero_le b2.1
  have hlo : lo < n := by omega
  have hhi : hi < n := by omega
  have hk2 : k2 < 4 := by omega
  have g1 : (pl.map P.int)[lo]? = some (.int (pl.getD lo 0)) := by rw [List.getElem?_map, List.getD_eq_getElem?_getD, List.getElem?_eq_getElem (by omega)]; rfl
  have g2 : (pl.map P.int)[hi]? = some (.int (pl.getD hi 0)) := by rw [List.getElem?_map, List.getD_eq_getElem?_getD, List.getElem?_eq_getElem (by omega)]; rfl
  simp at dg
  have i0 : ∀ (a b c d e : P), atI [a, b, c, d, e] 0 = some a := fun _ _ _ _ _ => rfl
  have i1 : ∀ (a b c d e : P), atI [a, b, c, d, e] 1 = some b := fun _ _ _ _ _ => rfl
  have i2 : ∀ (a b c d e : P), atI [a, b, c, d, e] 2 = some c := fun _ _ _ _ _ => rfl
  have i3 : ∀ (a b c d e : P), atI [a, b, c, d, e] 3 = some d := fun _ _ _ _ _ => rfl
  have i4 : ∀ (a b c d e : P), atI [a, b, c, d, e] 4 = some e := fun _ _ _ _ _ => rfl
  have j0 : ∀ (a b c d : P), atI [a, b, c, d] 0 = some a := fun _ _ _ _ => rfl
  have j1 : ∀ (a b c d : P), atI [a, b, c, d] 1 = some b := fun _ _ _ _ => rfl
  have j2 : ∀ (a b c d : P), atI [a, b, c, d] 2 = some c := fun _ _ _ _ => rfl
  have j3 : ∀ (a b c d : P), atI [a, b, c, d] 3 = some d := fun _ _ _ _ => rfl
  have hL : bs.length < LINE := by unfold LINE; omega
  obtain ⟨vl, hvl⟩ : ∃ x, pl.getD lo 0 = x := ⟨_, rfl⟩
  obtain ⟨vh, hvh⟩ : ∃ x, pl.getD hi 0 = x := ⟨_, rfl⟩
  rw [hvl] at g1
  rw [hvh] at g2
  -- the bond is made
  have fin : ∀ (r : Int) (p : U) (y8 : Option U), (p = .own (pl.map .int) ∨ p = .fz (.lst (pl.map .int))) → (md < 4 → vh ≤ vl + r) → wS (vq1__law_bonds.v [sc, some (.fz (.int n)), s2, some (.fz (.int md)), some p, some (.own (bs.map bP)), y6, some (.fz (.int num)), y8, some (.fz (.int lo)), some (.fz (.int hi)), some (.fz (.int r))]) K := by
    intro r p y8 hp hr
    have := h ⟨lo, hi, r⟩ p y6 (some (.fz (.int num))) y8 (some (.fz (.int lo))) (some (.fz (.int hi))) (some (.fz (.int r))) hlo hhi (fun h => by rw [hvl, hvh]; exact hr h) hp
    simp [hL, LINE]
    simpa [bP] using this
  simp [callK, dg, mkLst, LINE, p30]
  unfold lzV
  simp [i0, i1]
  unfold lzV
  simp
  obtain hk | hk | hk | hk : k2 = 0 ∨ k2 = 1 ∨ k2 = 2 ∨ k2 = 3 := by omega
  all_goals
    subst hk
    by_cases hm4 : md < 4
    · rcases hpc with rfl | rfl
      all_goals
        simp [hm4, ub, g1, g2, i0, i1, i2, i3, i4, j0, j1, j2, j3, mkLst, LINE]
        unfold lzV
        exact fin _ _ _ (.inr rfl) (fun _ => by omega)
    · by_cases hm7 : md < 7
      · simp [hm4, hm7, ub, i3]
        unfold lzV
        exact fin _ _ _ hpc (fun h => absurd h hm4)
      · simp [hm4, hm7, ub, i2, i4, j0, j1, j2, j3, p29, p30, mkLst, LINE]
        unfold lzV
        exact fin _ _ _ hpc (fun h => absurd h hm4)
theorem bonds_v {ns pl : List Int} {n : Nat} {sz : Nat} {md : Int} (h1 : ns.length = 48) (hn : 0 < n) (h2 : n ≤ 20) (h3 : sz ≤ 300) (hpl : pl.length = n) (hv : F__law_values.v [.fz (.lst (ns.map .int)), .fz (.int n)] = .ok (.own (pl.map .int)) o2) :
    ∃ bs : List Bd, bs.length = sz ∧ GB n pl md bs ∧ F__law_bonds.v [.fz (.lst (ns.map .int)), .fz (.int n), .fz (.int sz), .fz (.int md)] = .ok (.own (bs.map bP)) o4 := by
  suffices h : wF (F__law_bonds.v [.fz (.lst (ns.map .int)), .fz (.int n), .fz (.int sz), .fz (.int md)]) (fun u o => o = o4 ∧ ∃ bs : List Bd, bs.length = sz ∧ GB n pl md bs ∧ u = .own (bs.map bP)) fun _ _ => False by
    obtain ⟨u, o, h1, rfl, bs, h2, h3, rfl⟩ := vf_ex h
    exact ⟨bs, h2, h3, h1⟩
  rw [wf__law_bonds]
  unfold vb__law_bonds
  have sm := small_int (i := sz) (by omega) (by omega)
  simp [callK, hv]
  unfold lzV
  simp [mkLst]
  unfold lzV
  simp [sm.1, sm.2]
  refine forV_by (fun i σ => ∃ bs : List Bd, bs.length = i ∧ GB n pl md bs ∧ ∃ (p : U) (y : Option U × Option U × Option U × Option U × Option U × Option U), p.toP = .lst (pl.map .int) ∧ (p = .own (pl.map .int) ∨ p = .fz (.lst (pl.map .int))) ∧ σ = [some (.fz (.lst (ns.map .int))), some (.fz (.int n)), some (.fz (.int sz)), some (.fz (.int md)), some p, some (.own (bs.map bP)), y.1, y.2.1, y.2.2.1, y.2.2.2.1, y.2.2.2.2.1, y.2.2.2.2.2]) ?_ ?_
    ⟨[], rfl, ⟨fun _ h => (by cases h), fun _ _ h => (by cases h)⟩, .own (pl.map .int), (none, none, none, none, none, none), by simp, .inl rfl, rfl⟩
  · rintro i p σ hp ⟨bs, hbl, gb, pu, y, hpu, hpc, rfl⟩
    have hp' : i < sz ∧ p = .int i := by
      unfold rngP at hp
      rw [List.getElem?_map, Option.map_eq_some_iff] at hp
      obtain ⟨k, h1, rfl⟩ := hp
      obtain ⟨h2, h3⟩ := List.getElem?_eq_some_iff.mp h1
      simp at h2 h3
      subst h3
      exact ⟨by simpa using h2, by simp⟩
    obtain ⟨hi, rfl⟩ := hp'
    refine ⟨_, rfl, ?_⟩
    have b1 := bond_at h1 (k := i)
    have m1 : mulOk ((i : Int) / 40) 2654435761 = true := mul_r (by omega)
    have q1 : 0 < 1 + (i : Int) / 40 := by omega
    have q2 := log_small (b := 1 + (i : Int) / 40) (by omega) (by omega)
    simp [b1, m1, q1, q2]
    unfold lzV
    refine ⟨by decide, bond_cell hn h2 (by omega) hpl hpc fun b p y6 y7 y8 y9 y10 y11 c1 c2 c3 c4 => ⟨bs ++ [b], by simp [hbl], ⟨fun x hx => ?_, fun hmd x hx => ?_⟩, p, by rcases c4 with rfl | rfl <;> simp, c4, y6, y7, y8, y9, y10, y11, rfl⟩⟩
    · rcases List.mem_append.mp hx with hx | hx
      · exact gb.lt x hx
      · cases List.mem_singleton.mp hx; exact ⟨c1, c2⟩
    · rcases List.mem_append.mp hx with hx | hx
      · exact gb.kp hmd x hx
      · cases List.mem_singleton.mp hx; exact c3 hmd
  · rintro σ ⟨bs, hbl, gb, pu, y, hpu, hpc, rfl⟩
    unfold lzV
    simp
    exact ⟨bs, by rw [hbl]; simp [rngP], by rw [hbl] at *; exact gb, rfl⟩
end K37
end

section
set_option autoImplicit false
set_option linter.all false
set_option maxRecDepth 100000
/-! k37: the papers. -/
namespace K37
open Py
theorem flat_good {p : P} (h : p.le 50 = true) (ht : ∀ qs, p ≠ .tup qs) (hl : ∀ qs, p ≠ .lst qs) : Gp p := ⟨h, fun qs e => absurd e (ht qs), fun qs e => absurd e (hl qs)⟩
/-- plain values in a tuple, a list -/
theorem tup_good {ps : List P} (h : ∀ p ∈ ps, p.le 49 = true) (hl : ps.length < 100000) : Gp (.tup ps) := ⟨by rw [ple_tup, List.all_eq_true]; exact h, fun qs e => (by cases e; exact hl), fun qs e => (by cases e)⟩
theorem lst_good {ps : List P} (h : ∀ p ∈ ps, p.le 49 = true) (hl : ps.length < 100000) : Gp (.lst ps) := ⟨by rw [ple_lst, List.all_eq_true]; exact h, fun qs e => (by cases e), fun qs e => (by cases e; exact hl)⟩
theorem log_1920 {b : Int} (h0 : 0 ≤ b) (h : b < 1000000) : b.natAbs.log2 < 1920 := by
  by_cases hz : b.natAbs = 0
  · rw [hz]; decide
  · have : b.natAbs.log2 < 20 := by
      rw [Nat.log2_lt hz]
      have : (2 : Nat) ^ 20 = 1048576 := by decide
      omega
    omega
theorem value_papers_v {vs : List Int} {num : Int} (h0 : 0 < vs.length) (h1 : vs.length ≤ 20) : ∃ ps : List P, (∀ p, p ∈ ps → Gp p) ∧ F__law_value_papers.v [.fz (.tup (vs.map .int)), .fz (.int num)] = .ok (.own ps) o2 := by
  suffices h : wF (F__law_value_papers.v [.fz (.tup (vs.map .int)), .fz (.int num)]) (fun u o => o = o2 ∧ ∃ ps : List P, (∀ p, p ∈ ps → Gp p) ∧ u = .own ps) fun _ _ => False by
    obtain ⟨u, o, h1, rfl, ps, h2, rfl⟩ := vf_ex h
    exact ⟨ps, h2, h1⟩
  rw [wf__law_value_papers]
  unfold vb__law_value_papers
  have hp : 0 < (vs.length : Int) := by omega
  obtain ⟨s, hs⟩ : ∃ s : Nat, num % (vs.length : Int) = s := Int.eq_ofNat_of_zero_le (Int.emod_nonneg _ (by omega))
  have hs2 : s < vs.length := by have := Int.emod_lt_of_pos num hp; omega
  have hL : vs.length < LINE := by unfold LINE; omega
  have e1 : (vs.map P.int)[s]? = some (.int (vs.getD s 0)) := by rw [List.getElem?_map, List.getD_eq_getElem?_getD, List.getElem?_eq_getElem hs2]; rfl
  obtain ⟨v, hv⟩ : ∃ x, vs.getD s 0 = x := ⟨_, rfl⟩
  rw [hv] at e1
  have c1 : cut (vs.map P.int) none (some (s : Int)) = (vs.take s).map P.int := by rw [cut_to, List.map_take]
  have c2 : cut (vs.map P.int) (some ((s : Int) + 1)) none = (vs.drop (s + 1)).map P.int := by
    have := cut_from (vs.map P.int) (n := s + 1) (by simp; omega)
    rw [show (s : Int) + 1 = ((s + 1 : Nat) : Int) by omega, this, List.map_drop]
  have l1 : min s vs.length = s := by omega
  have lcs : ∀ (y2 y3 y4 : Option U) (k : Int) (e : E []), (∀ (σ : VEnv) (x : Int), σ[6]? = some (some (.fz (.int x))) → e.v σ = .ok (.u (.fz (.int (x + k)))) σ) →
      lcGoV (Tgt.name 6).v (Te.yes (Cx := [])).v e.v [6] (vs.map P.int) [some (.fz (.tup (vs.map .int))), some (.fz (.int num)), y2, y3, y4, none, none] [] = .ok (((vs.map fun x => .int (x + k))).map .fz) [some (.fz (.tup (vs.map .int))), some (.fz (.int num)), y2, y3, y4, none, none] := by
    intro y2 y3 y4 k e he
    exact lc_fn P.int _ vs hL fun x _ => ⟨_, rfl, he _ x rfl, rfl⟩
  have la := fun y2 y3 y4 => lcs y2 y3 y4 7 (E.op2 Add (E.var 6) (E.int 7)) fun σ x hx => by simp [hx]
  have lb := fun y2 y3 y4 => lcs y2 y3 y4 (-10000000000000000000000000000000) (E.op2 Sub (E.var 6) (E.op2 Pow (E.int 10) (E.int 31))) fun σ x hx => by simp [hx, p31]; omega
  simp [hp, hs]
  unfold lzV
  simp [c1, c2]
  unfold lzV
  simp [la, lb, LINE]
  unfold lzV
  refine ⟨by omega, ?_⟩
  have hA : (List.take s (vs.map P.int)).length ≤ 20 := by simp; omega
  have hB : (List.drop (s + 1) (vs.map P.int)).length ≤ 20 := by simp; omega
  have mA : ∀ p ∈ List.take s (vs.map P.int), p.le 49 = true := fun p hp => by
    obtain ⟨i, _, rfl⟩ := List.mem_map.mp (List.mem_of_mem_take hp); simp
  have mB : ∀ p ∈ List.drop (s + 1) (vs.map P.int), p.le 49 = true := fun p hp => by
    obtain ⟨i, _, rfl⟩ := List.mem_map.mp (List.mem_of_mem_drop hp); simp
  generalize List.take s (vs.map P.int) = A at *
  generalize List.drop (s + 1) (vs.map P.int) = B at *
  simp [e1, mkLst, LINE]
  refine ⟨by omega, by omega, by omega, by omega, ?_⟩
  unfold lzV
  simp [mkLst, LINE]
  refine ⟨by omega, by omega, by omega, by omega, by omega, by omega, ?_⟩
  unfold lzV
  have hst := log_1920 (b := (s : Int)) (by omega) (by omega)
  simp at hst
  simp [mkLst, LINE, hst]
  have mid : ∀ x : P, x.le 49 = true → Gp (.tup (A ++ x :: B)) := fun x hx => tup_good (fun p hp => by
    rcases List.mem_append.mp hp with hp | hp
    · exact mA p hp
    · rcases List.mem_cons.mp hp with rfl | hp
      · exact hx
      · exact mB p hp) (by simp; omega)
  have mp : ∀ f : Int → Int, Gp (.tup (vs.map fun x => .int (f x))) := fun f => tup_good (fun p hp => by obtain ⟨i, _, rfl⟩ := List.mem_map.mp hp; simp) (by simp; omega)
  refine ⟨by omega, by omega, by omega, by omega, mp id, mp _, mp _, mid _ (by simp), mid _ (by simp), lst_good (fun p hp => by obtain ⟨i, _, rfl⟩ := List.mem_map.mp hp; simp) (by simp; omega), tup_good (fun p hp => ?_) (by simp; omega), tup_good (fun p hp => ?_) (by simp; omega),
    mid _ (by simp), mid _ (by simp), mid _ (by simp), flat_good (by simp) nofun nofun, flat_good (by simp) nofun nofun, tup_good (by simp) (by simp), flat_good (by simp) nofun nofun, mid _ (by simp)⟩
  · rcases List.mem_append.mp hp with hp | hp
    · obtain ⟨i, _, rfl⟩ := List.mem_map.mp hp; simp
    · cases List.mem_singleton.mp hp; simp
  · rcases List.mem_append.mp hp with hp | hp
    · exact mA p hp
    · exact mB p hp
end K37
end

section
set_option autoImplicit false
set_option linter.all false
set_option maxRecDepth 100000
/-! k37: the papers of wheels. -/
namespace K37
open Py
theorem cut_from' {α : Type} (xs : List α) {n : Nat} (h : n ≤ xs.length) : cut xs (some (n : Int)) none = xs.drop n := cut_from xs h
theorem wheel_papers_v {vs : List Int} {num : Int} {sz : Nat} (h0 : 0 < vs.length) (h1 : vs.length ≤ 25) (hz : sz ≤ 400) : ∃ ps : List P, (∀ p, p ∈ ps → Gp p) ∧ ps.length ≤ 100 ∧ F__law_wheel_papers.v [.fz (.lst (vs.map .int)), .fz (.int sz), .fz (.int num)] = .ok (.own ps) o3 := by
  suffices h : wF (F__law_wheel_papers.v [.fz (.lst (vs.map .int)), .fz (.int sz), .fz (.int num)]) (fun u o => o = o3 ∧ ∃ ps : List P, (∀ p, p ∈ ps → Gp p) ∧ ps.length ≤ 100 ∧ u = .own ps) fun _ _ => False by
    obtain ⟨u, o, h1, rfl, ps, h2, h3, rfl⟩ := vf_ex h
    exact ⟨ps, h2, h3, h1⟩
  rw [wf__law_wheel_papers]
  unfold vb__law_wheel_papers
  have hp : 0 < (vs.length : Int) := by omega
  obtain ⟨s, hs⟩ : ∃ s : Nat, num % (vs.length : Int) = s := Int.eq_ofNat_of_zero_le (Int.emod_nonneg _ (by omega))
  have hs2 : s < vs.length := by have := Int.emod_lt_of_pos num hp; omega
  have hL : vs.length < LINE := by unfold LINE; omega
  have c1 : cut (vs.map P.int) none (some (s : Int)) = (vs.map P.int).take s := cut_to _ _
  have c2 : cut (vs.map P.int) (some ((s : Int) + 1)) none = (vs.map P.int).drop (s + 1) := by
    have := cut_from (vs.map P.int) (n := s + 1) (by simp; omega)
    rw [show (s : Int) + 1 = ((s + 1 : Nat) : Int) by omega, this]
  have c3 : cut (vs.map P.int) (some (s : Int)) none = (vs.map P.int).drop s := cut_from _ (by simp; omega)
  have c4 : cut (vs.map P.int) (some 1) none = (vs.map P.int).drop 1 := cut_from (n := 1) _ (by simp; omega)
  have c : (vs.map P.int).length ≤ 25 := by simp; omega
  have m4 : ∀ p ∈ vs.map P.int, p.le 40 = true := fun p hp => by obtain ⟨i, _, rfl⟩ := List.mem_map.mp hp; simp
  have m : ∀ p ∈ vs.map P.int, p.le 49 = true := fun p hp => le_up (by decide) (m4 p hp)
  have lc : ∀ y3 y4 : Option U, lcGoV (Tgt.name 5).v (Te.yes (Cx := [])).v (E.ite (Cx := []) (Te.val (E.op2 In_.op (E.var 5) (E.tup (arCons (E.int 0) (arCons (E.int 1) arNil))))) (E.op2 Eq_.op (E.var 5) (E.int 1)) (E.var 5)).v [5] (vs.map P.int) [some (.fz (.lst (vs.map .int))), some (.fz (.int sz)), some (.fz (.int num)), y3, y4, none] [] =
      .ok ((vs.map fun x => if x = 0 ∨ x = 1 then P.bl (x == 1) else .int x).map .fz) [some (.fz (.lst (vs.map .int))), some (.fz (.int sz)), some (.fz (.int num)), y3, y4, none] := by
    intro y3 y4
    refine lc_fn P.int _ vs hL fun x _ => ⟨_, rfl, ?_, rfl⟩
    have e1 : inP' (.int x) (.tup [.int 0, .int 1]) = some (decide (x = 0 ∨ x = 1)) := by
      rw [inP_t]
      have : (flatP (.int x) && [P.int 0, P.int 1].all flatP) = true := rfl
      rw [if_pos this]
      congr 1
      by_cases h0 : x = 0 <;> by_cases h1 : x = 1 <;> simp [h0, h1] <;> omega
    by_cases hx : x = 0 ∨ x = 1
    · simp [LINE, ub, e1, hx]
    · simp [LINE, ub, e1, hx]
  obtain ⟨B, hB⟩ : ∃ B, (vs.map fun x => if x = 0 ∨ x = 1 then P.bl (x == 1) else .int x) = B := ⟨_, rfl⟩
  have hBl : B.length ≤ 25 := by rw [← hB]; simp; omega
  have mB : ∀ p ∈ B, p.le 49 = true := fun p hp => by
    rw [← hB] at hp
    obtain ⟨i, _, rfl⟩ := List.mem_map.mp hp
    split <;> simp
  rw [hB] at lc
  have hlen : (vs.map P.int).length = vs.length := by simp
  generalize vs.map P.int = W at *
  have hlen' : (W.length : Int) = vs.length := by omega
  simp [hlen', hp, hs]
  unfold lzV
  simp [c1, c2, c3, c4, mkLst, LINE]
  refine ⟨by omega, by omega, by omega, ?_⟩
  unfold lzV
  have hst := log_1920 (b := (s : Int)) (by omega) (by omega)
  simp at hst
  simp [c1, c2, c3, c4, mkLst, LINE, hst]
  refine ⟨by omega, by omega, by omega, ?_⟩
  unfold lzV
  have hsz : (0 : Int) < sz + 1 := by omega
  simp [c1, c2, c3, c4, mkLst, LINE, hsz]
  refine ⟨by decide, by omega, by omega, ?_⟩
  unfold lzV
  have hr : (sz : Int) ≤ 16777216 := by omega
  simp [lc, mkLst, LINE, hr, allFz_map]
  have mt : ∀ n, ∀ p ∈ W.take n, p.le 49 = true := fun n p hp => m p (List.mem_of_mem_take hp)
  have md : ∀ n, ∀ p ∈ W.drop n, p.le 49 = true := fun n p hp => m p (List.mem_of_mem_drop hp)
  have ap : ∀ (A C : List P), (∀ p ∈ A, p.le 49 = true) → (∀ p ∈ C, p.le 49 = true) → A.length + C.length < 100000 → Gp (.lst (A ++ C)) := fun A C h1 h2 h3 => lst_good (fun p hp => (List.mem_append.mp hp).elim (h1 p) (h2 p)) (by simp; omega)
  have on : ∀ q : P, q.le 49 = true → ∀ p ∈ [q], p.le 49 = true := fun q hq p hp => by cases List.mem_singleton.mp hp; exact hq
  have lw : (P.lst W).le 49 = true := by
    rw [ple_lst, List.all_eq_true]
    exact fun q hq => le_up (by decide) (m4 q hq)
  have rn : ∀ p ∈ rngP 0 sz, p.le 49 = true := fun p hp => by
    unfold rngP at hp
    obtain ⟨i, _, rfl⟩ := List.mem_map.mp hp
    simp
  have ht := List.length_take (l := W) (i := s)
  have hd := List.length_drop (l := W) (i := s + 1)
  have hlr : (rngP 0 sz).length = sz := by simp [rngP]
  exact ⟨lst_good m (by omega), ap _ _ (md s) (mt s) (by simp; omega), ap _ _ m m (by omega), lst_good (fun p hp => m p (List.mem_of_mem_tail hp)) (by simp; omega), ap _ _ (mt s) (md _) (by simp; omega), lst_good (fun p hp => m p (List.mem_reverse.mp hp)) (by simp; omega),
    ap _ _ m (on _ (by simp)) (by simp; omega), ap _ _ m (on _ (by simp)) (by simp; omega), ap _ _ m (on _ (by simp)) (by simp; omega), ap _ _ (mt s) (on _ (by simp)) (by simp; omega),
    ap _ _ (mt s) (fun p hp => (List.mem_cons.mp hp).elim (fun e => by rw [e]; simp) (md _ p)) (by simp; omega), tup_good m (by omega), lst_good (by simp) (by simp), flat_good (by simp) nofun nofun, flat_good (by simp) nofun nofun, lst_good mB (by omega), lst_good (on _ lw) (by simp), lst_good rn (by omega), lst_good (on _ (by simp)) (by simp), flat_good (by simp) nofun nofun⟩
end K37
end

section
set_option autoImplicit false
set_option linter.all false
set_option maxRecDepth 100000
/-! k37: refusals. -/
namespace K37
open Py
section
variable {c : P} {ps : List P} {x : VX} (hc : F_check_bonds.v [.fz c, .fz (.lst ps)] = .exc x o2)
include hc
theorem solve_x : F_solve.v [.fz c, .fz (.lst ps)] = .exc x o2 := by
  apply vf_exc
  rw [wf_solve]
  unfold vb_solve
  simp [callK, hc]
theorem most_x (a b : P) : F_most_apart.v [.fz c, .fz (.lst ps), .fz a, .fz b] = .exc x [none, none, none, none] := by
  apply vf_exc
  rw [wf_most_apart]
  unfold vb_most_apart
  simp [callK, hc]
theorem values_x (a : P) : F_is_values.v [.fz c, .fz (.lst ps), .fz a] = .exc x o3 := by
  apply vf_exc
  rw [wf_is_values]
  unfold vb_is_values
  simp [callK, hc]
theorem ring_x (a : P) : F_is_bond_ring.v [.fz c, .fz (.lst ps), .fz a] = .exc x o3 := by
  apply vf_exc
  rw [wf_is_bond_ring]
  unfold vb_is_bond_ring
  simp [callK, hc]
theorem path_x (a b d : P) : F_is_bond_path.v [.fz c, .fz (.lst ps), .fz a, .fz b, .fz d] = .exc x [none, none, none, none, none] := by
  apply vf_exc
  rw [wf_is_bond_path]
  unfold vb_is_bond_path
  simp [callK, hc]
theorem shore_x (a b d : P) : F_is_shore.v [.fz c, .fz (.lst ps), .fz a, .fz b, .fz d] = .exc x [none, none, none, none, none] := by
  apply vf_exc
  rw [wf_is_shore]
  unfold vb_is_shore
  simp [callK, hc]
end
/-- what is told of an exception -/
def toldX (x : VX) (t : P) : Prop := (∃ k : Int, x = xBad k ∧ t = .tup [.str ['b', 'o', 'n', 'd'], .int k]) ∨ (x = xMany ∧ t = .tup [.str ['m', 'a', 'n', 'y'], .int 300])
/-- the suite -/
abbrev suite37 : XA 4 3 := XA.seq (XA.ite (XT.val (XE.isE is_BadBond)) (XA.app (XE.tup (XL.cons (XE.str ['b', 'o', 'n', 'd']) (XL.cons (XE.fld "place" fl_place) (XL.nil))))) (XA.nil)) (XA.seq (XA.ite (XT.val (XE.isE is_TooMany)) (XA.app (XE.tup (XL.cons (XE.str ['m', 'a', 'n', 'y']) (XL.cons (XE.fld "limit" fl_limit) (XL.nil))))) (XA.nil)) (XA.ite (XT.val (XE.isE is_Contradiction)) (XA.app (XE.tup (XL.cons (XE.str ['r', 'i', 'n', 'g']) (XL.nil)))) (XA.nil)))
theorem suite_v {x : VX} {t : P} (ht : toldX x t) : ex_HearsayError x.cls = some true ∧ suite37.v x = some [t] := by
  rcases ht with ⟨k, rfl, rfl⟩ | ⟨rfl, rfl⟩
  · exact ⟨by simp [xBad], by simp [suite37, XA.seq, XA.ite, XT.val, XE.isE, XA.app, XE.tup, XL.cons, XL.nil, XE.str, XE.fld, XA.nil, blP, xBad, fl_place, LINE]⟩
  · exact ⟨by simp [xMany], by simp [suite37, XA.seq, XA.ite, XT.val, XE.isE, XA.app, XE.tup, XL.cons, XL.nil, XE.str, XE.fld, XA.nil, blP, xMany, fl_limit, LINE]⟩
theorem refusal_v {c : P} {ps : List P} {x : VX} {t : P} (hc : F_check_bonds.v [.fz c, .fz (.lst ps)] = .exc x o2) (ht : toldX x t) (ask : Int) : F__law_refusal.v [.fz (.int ask), .fz c, .fz (.lst ps)] = .ok (.own [t]) o3 := by
  apply vf_ok
  rw [wf__law_refusal]
  unfold vb__law_refusal
  obtain ⟨e1, e2⟩ := suite_v ht
  simp [mkLst]
  unfold lzV
  simp only [s_seq]
  rw [s_tryA]
  by_cases h0 : ask = 0
  · subst h0
    simp [ub, callK, solve_x hc, e1, e2]
    exact ⟨by unfold LINE; omega, by unfold lzV; simp⟩
  by_cases h1 : ask = 1
  · subst h1
    simp [ub, callK, most_x hc, e1, e2]
    exact ⟨by unfold LINE; omega, by unfold lzV; simp⟩
  by_cases h2 : ask = 2
  · subst h2
    simp [ub, callK, values_x hc, e1, e2]
    exact ⟨by unfold LINE; omega, by unfold lzV; simp⟩
  by_cases h3 : ask = 3
  · subst h3
    simp [ub, callK, ring_x hc, e1, e2, mkLst]
    exact ⟨by unfold LINE; omega, by unfold lzV; simp⟩
  by_cases h4 : ask = 4
  · subst h4
    simp [ub, callK, path_x hc, e1, e2, mkLst]
    exact ⟨by unfold LINE; omega, by unfold lzV; simp⟩
  · simp [ub, callK, shore_x hc, e1, e2, mkLst, h0, h1, h2, h3, h4]
    exact ⟨by unfold LINE; omega, by unfold lzV; simp⟩
end K37
end

section
set_option autoImplicit false
set_option linter.all false
set_option maxRecDepth 100000
/-! k37: _law_ask_refusals. -/
namespace K37
open Py
theorem equal_told {s : List Char} {k : Int} (hs : s.all plainC = true) (hl : s.length < 100) (h0 : -1000000 ≤ k) (h1 : k ≤ 1000000) : F__law_equal.v [.fz (.lst [.tup [.str s, .int k]]), .fz (.lst [.tup [.str s, .int k]])] = .ok (.fz (.bl true)) o2 := by
  refine equal_v ?_ (by simp) ?_
  · simp only [P.sh, P.shs, hs, Bool.and_true, Bool.true_and, decide_eq_true_eq]
    have : k.natAbs < 10 ^ 7 := by omega
    exact Nat.lt_of_lt_of_le this (Nat.pow_le_pow_right (by omega) (by omega))
  · simp only [P.wt, P.wts, LINE]; omega
def nats (n : Nat) (ps : List P) : Prop := ∀ p ∈ ps, p.le 50 = true
structure Odd (n : Nat) (p : P) : Prop where
  le : p.le 50 = true
  sz : ∀ qs, p = .tup qs → qs.length < LINE
  no : isB n p = false
theorem bd_good {n : Nat} {bs : List Bd} (hb : ∀ b, b ∈ bs → b.lo < n ∧ b.hi < n) {p : P} (hp : p ∈ bs.map bP) : p.le 50 = true ∧ (∀ qs, p = .tup qs → qs.length < LINE) ∧ isB n p = true := by
  obtain ⟨b, hm, rfl⟩ := List.mem_map.mp hp
  have := hb b hm
  refine ⟨by simp [bP], fun qs e => (by cases e; simp [LINE]), ?_⟩
  simp [isB, bP]; omega
section
variable {n : Nat} {bs : List Bd} (hb : ∀ b, b ∈ bs → b.lo < n ∧ b.hi < n) (hl : bs.length ≤ 300) (hn : 0 < n) (hn2 : n ≤ 20)
include hb hl hn hn2
/-- a spoilt list is refused at its place -/
theorem spoilt_x {s : Nat} {od : P} (ho : Odd n od) (hs : s ≤ bs.length) (hs3 : s < 300) :
    F_check_bonds.v [.fz (.int n), .fz (.lst (((bs.map bP).take s ++ od :: ((bs.map bP).drop s ++ [.non])).take 300))] = .exc (xBad s) o2 := by
  have hmem : ∀ p, p ∈ ((bs.map bP).take s ++ od :: ((bs.map bP).drop s ++ [.non])).take 300 → p.le 50 = true ∧ ∀ qs, p = .tup qs → qs.length < LINE := by
    intro p hp
    have hp := List.mem_of_mem_take hp
    rcases List.mem_append.mp hp with hp | hp
    · have := bd_good hb (List.mem_of_mem_take hp); exact ⟨this.1, this.2.1⟩
    · rcases List.mem_cons.mp hp with rfl | hp
      · exact ⟨ho.le, ho.sz⟩
      · rcases List.mem_append.mp hp with hp | hp
        · have := bd_good hb (List.mem_of_mem_drop hp); exact ⟨this.1, this.2.1⟩
        · cases List.mem_singleton.mp hp; exact ⟨by simp, nofun⟩
  have lt : ((bs.map bP).take s).length = s := by simp; omega
  refine check_bad (n := n) (by omega) ⟨fun p hp => (hmem p hp).1, fun p hp => (hmem p hp).2⟩ (by simp; omega) (p := od) ?_ ho.no ?_
  · rw [List.getElem?_take_of_lt hs3, List.getElem?_append_right (by omega), lt, Nat.sub_self]; rfl
  · intro j q hj hq
    rw [List.getElem?_take_of_lt (by omega), List.getElem?_append_left (by omega)] at hq
    exact (bd_good hb (List.mem_of_mem_take (List.mem_of_getElem? hq))).2.2
theorem ask_refusals_v (num : Int) : F__law_ask_refusals.v [.fz (.int n), .fz (.lst (bs.map bP)), .fz (.int num)] = .ok (.fz (.bl true)) o3 := by
  apply vf_ok
  rw [wf__law_ask_refusals]
  unfold vb__law_ask_refusals
  have dg := digits_v (z := num) (bases := [6, 12, 300]) (by decide) (by decide)
  simp only [digs, List.map_cons, List.map_nil] at dg
  obtain ⟨d0, e0⟩ : ∃ k : Nat, num % 6 = k := Int.eq_ofNat_of_zero_le (Int.emod_nonneg _ (by omega))
  obtain ⟨d1, e1⟩ : ∃ k : Nat, num / 6 % 12 = k := Int.eq_ofNat_of_zero_le (Int.emod_nonneg _ (by omega))
  obtain ⟨d2, e2⟩ : ∃ k : Nat, num / 6 / 12 % 300 = k := Int.eq_ofNat_of_zero_le (Int.emod_nonneg _ (by omega))
  have l0 : d0 < 6 := by have := Int.emod_lt_of_pos num (show (0 : Int) < 6 by omega); omega
  have l1 : d1 < 12 := by have := Int.emod_lt_of_pos (num / 6) (show (0 : Int) < 12 by omega); omega
  rw [e0, e1, e2] at dg
  have hB : (bs.map bP).length = bs.length := by simp
  obtain ⟨s, hs⟩ : ∃ s : Nat, (d2 : Int) % (1 + (bs.length : Int)) = s := Int.eq_ofNat_of_zero_le (Int.emod_nonneg _ (by omega))
  have hs2 : s ≤ bs.length := by have := Int.emod_lt_of_pos (d2 : Int) (show 0 < 1 + (bs.length : Int) by omega); omega
  -- the wrong count
  obtain ⟨w, hw, w1, w2⟩ : ∃ w : P, ([P.int 0, .int 21, .bl true, .non, .str ['3'], .int (-1)] : List P)[d0]? = some w ∧ w.le 50 = true ∧ isC w = false := by
    obtain h | h | h | h | h | h : d0 = 0 ∨ d0 = 1 ∨ d0 = 2 ∨ d0 = 3 ∨ d0 = 4 ∨ d0 = 5 := by omega
    all_goals subst h; exact ⟨_, rfl, by simp, by simp [isC]⟩
  -- the odd one
  obtain ⟨od, hod, odd⟩ : ∃ od : P, ([P.non, .int 5, .tup [.int 0, .int 0], .tup [.int 0, .int 0, .int 0, .int 0], .lst [.int 0, .int 0, .int 1], .tup [.int 0, .int n, .int 1], .tup [.int (-1), .int 0, .int 1], .tup [.int 0, .int 0, .non], .tup [.bl false, .int 0, .int 1], .tup [.int 0, .int 0, .bl true], .tup [.str ['0'], .int 0, .int 1], .tup [.int 0, .int (n + 7), .int 1]] : List P)[d1]? = some od ∧ Odd n od := by
    obtain h | h | h | h | h | h | h | h | h | h | h | h : d1 = 0 ∨ d1 = 1 ∨ d1 = 2 ∨ d1 = 3 ∨ d1 = 4 ∨ d1 = 5 ∨ d1 = 6 ∨ d1 = 7 ∨ d1 = 8 ∨ d1 = 9 ∨ d1 = 10 ∨ d1 = 11 := by omega
    all_goals
      subst h
      refine ⟨_, rfl, by simp, fun qs e => ?_, ?_⟩
      · first | (cases e; done) | (cases e; simp [LINE])
      · first | rfl | (simp [isB]; done) | (simp [isB]; omega)
  have i0 : ∀ (a b c : P), atI [a, b, c] 0 = some a := fun _ _ _ => rfl
  have i1 : ∀ (a b c : P), atI [a, b, c] 1 = some b := fun _ _ _ => rfl
  have i2 : ∀ (a b c : P), atI [a, b, c] 2 = some c := fun _ _ _ => rfl
  simp [callK, dg, mkLst, LINE]
  unfold lzV
  simp [i0, hw, mkLst, LINE]
  unfold lzV
  simp [mkLst, LINE]
  unfold lzV
  simp [mkLst, LINE]
  unfold lzV
  have hp : 0 < 1 + (bs.length : Int) := by omega
  simp [i2, hp, hs]
  unfold lzV
  have c1 : cut (bs.map bP) none (some (s : Int)) = (bs.map bP).take s := cut_to _ _
  have c3 : cut (bs.map bP) (some (s : Int)) none = (bs.map bP).drop s := cut_from _ (by simp; omega)
  have c5 : ∀ xs : List P, cut xs none (some 300) = xs.take 300 := fun xs => cut_to xs 300
  have c6 : ∀ xs : List P, cut xs none (some 301) = xs.take 301 := fun xs => cut_to xs 301
  simp only [s_seq]
  simp [i1, hod, c1, c3, c5, mkLst, LINE]
  refine ⟨by omega, by omega, by omega, ?_⟩
  have hx := fun h => spoilt_x hb hl hn hn2 odd hs2 h
  have hSl : (((bs.map bP).take s ++ od :: ((bs.map bP).drop s ++ [.non])).take 300).length ≤ 300 := by simp; omega
  generalize ((bs.map bP).take s ++ od :: ((bs.map bP).drop s ++ [.non])).take 300 = Sp at *
  unfold lzV
  obtain ⟨R, hM⟩ : ∃ R, List.replicate 301 (P.tup [.int 0, .int 0, .int 0]) = R := ⟨_, rfl⟩
  have hml : R.length = 301 := by rw [← hM]; simp only [List.length_replicate]
  simp [-List.reduceReplicate, c6, mkLst, LINE, hM, hml]
  refine ⟨by omega, ?_⟩
  have hMl : 300 < ((Sp ++ R).take 301).length := by simp; omega
  generalize (Sp ++ R).take 301 = Mn at *
  unfold lzV
  have sm := small_int (i := 6) (by omega) (by omega)
  simp [sm.1, sm.2]
  refine forV_by (fun i σ => ∃ y9 y10 y5 : Option U, ∃ b7 b8 : U, (b7 = .own Sp ∨ b7 = .fz (.lst Sp)) ∧ (b8 = .own Mn ∨ b8 = .fz (.lst Mn)) ∧ σ = [some (.fz (.int n)), some (.fz (.lst (bs.map bP))), some (.fz (.int num)), some (.fz (.lst [.int d0, .int d1, .int d2])), some (.fz w), y5, some (.fz (.int s)), some b7, some b8, y9, y10]) ?_ ?_ ⟨none, none, _, .fz (.lst Sp), .own Mn, .inr rfl, .inl rfl, rfl⟩
  · rintro i p σ hpp ⟨y9, y10, y5, b7, b8, h7, h8, rfl⟩
    refine ⟨_, rfl, ?_⟩
    obtain ⟨ask, rfl⟩ : ∃ ask : Int, p = .int ask := by
      unfold rngP at hpp
      rw [List.getElem?_map, Option.map_eq_some_iff] at hpp
      obtain ⟨k, _, rfl⟩ := hpp
      exact ⟨_, rfl⟩
    have r1 := fun ps : List P => refusal_v (check_count (ps := ps) w1 w2) (t := .tup [.str ['b', 'o', 'n', 'd'], .int (-1)]) (.inl ⟨-1, rfl, rfl⟩) ask
    have hC : isC (.int n) = true := by simp [isC]; omega
    have r2 := refusal_v (check_many hC hMl) (t := .tup [.str ['m', 'a', 'n', 'y'], .int 300]) (.inr ⟨rfl, rfl⟩) ask
    have r3 := fun h => refusal_v (hx h) (t := .tup [.str ['b', 'o', 'n', 'd'], .int s]) (.inl ⟨s, rfl, rfl⟩) ask
    have q1 := equal_told (s := ['b', 'o', 'n', 'd']) (k := -1) (by decide) (by decide) (by omega) (by omega)
    have q2 := equal_told (s := ['m', 'a', 'n', 'y']) (k := 300) (by decide) (by decide) (by omega) (by omega)
    have q3 := equal_told (s := ['b', 'o', 'n', 'd']) (k := s) (by decide) (by decide) (by omega) (by omega)
    have inner : ∀ (K : Kv) (b7 b8 : U) (y10 : Option U), (∀ y, K.nx [some (.fz (.int n)), some (.fz (.lst (bs.map bP))), some (.fz (.int num)), some (.fz (.lst [.int d0, .int d1, .int d2])), some (.fz w), y5, some (.fz (.int s)), some b7, some b8, some (.fz (.int ask)), y]) →
        wS (forV (Tgt.name 10).v vw1__law_ask_refusals.v [.lst (bs.map bP), .lst Sp, .lst Mn] [some (.fz (.int n)), some (.fz (.lst (bs.map bP))), some (.fz (.int num)), some (.fz (.lst [.int d0, .int d1, .int d2])), some (.fz w), y5, some (.fz (.int s)), some b7, some b8, some (.fz (.int ask)), y10]) K := by
      intro K b7 b8 y10 hK
      refine for_all1 (Y := Option U) (fun y => [some (.fz (.int n)), some (.fz (.lst (bs.map bP))), some (.fz (.int num)), some (.fz (.lst [.int d0, .int d1, .int d2])), some (.fz w), y5, some (.fz (.int s)), some b7, some b8, some (.fz (.int ask)), y]) (fun _ => true) (.fz (.bl false)) _ ?_ y10 (fun _ y => hK y) (fun h => by simp at h)
      intro y x hm
      obtain ⟨q, rfl⟩ : ∃ q, x = .lst q := by
        simp at hm
        rcases hm with rfl | rfl | rfl <;> exact ⟨_, rfl⟩
      refine ⟨_, rfl, ?_⟩
      simp [callK, r1, q1, mkLst, LINE]
    have last : ∀ (K : Kv) (y10 : Option U), (∀ y9 y10 y5 b7 b8, (b7 = U.own Sp ∨ b7 = .fz (.lst Sp)) → (b8 = U.own Mn ∨ b8 = .fz (.lst Mn)) → K.nx [some (U.fz (.int n)), some (.fz (.lst (bs.map bP))), some (.fz (.int num)), some (.fz (.lst [.int d0, .int d1, .int d2])), some (.fz w), y5, some (.fz (.int s)), some b7, some b8, y9, y10]) →
        wS (vq2__law_ask_refusals.v [some (U.fz (.int n)), some (.fz (.lst (bs.map bP))), some (.fz (.int num)), some (.fz (.lst [.int d0, .int d1, .int d2])), some (.fz w), y5, some (.fz (.int s)), some (.fz (.lst Sp)), some (.fz (.lst Mn)), some (.fz (.int ask)), y10]) K := by
      intro K y10 hK
      simp [callK, r2, q2, mkLst, LINE]
      unfold lzV
      by_cases h3 : (s : Int) < 300
      · simp [ub, h3, callK, r3 (by omega), q3, mkLst, LINE]
        exact hK _ _ _ _ _ (.inr rfl) (.inr rfl)
      · simp [ub, h3]
        exact hK _ _ _ _ _ (.inr rfl) (.inr rfl)
    rcases h7 with rfl | rfl <;> rcases h8 with rfl | rfl
    all_goals
      simp [LINE]
      refine inner _ _ _ _ fun y => ?_
      unfold lzV
      exact last _ _ fun y9 y10 y5 b7 b8 h7 h8 => by rcases h7 with rfl | rfl <;> rcases h8 with rfl | rfl <;> exact ⟨y9, y10, y5, by simp⟩
  · rintro σ ⟨y9, y10, y5, b7, b8, h7, h8, rfl⟩
    unfold lzV
    simp
end
end K37
end

section
set_option autoImplicit false
set_option linter.all false
set_option maxRecDepth 100000
/-! k37: rings and values; the law's second half. -/
namespace K37
open Py
section
variable {bs : List Bd} {rs : List Nat}
theorem tele (f : Nat → Bd) (u : Nat → Int) : ∀ m, (∀ i, i + 1 < m + 1 → (f i).hi = (f (i + 1)).lo) → (((List.range (m + 1)).map fun i => u (f i).hi - u (f i).lo)).sum = u (f m).hi - u (f 0).lo
  | 0, _ => by simp
  | m + 1, h => by
    rw [List.range_succ, List.map_append, List.sum_append, tele f u m fun i hi => h i (by omega)]
    have := h m (by omega)
    simp [this]
    omega
theorem sum_le (f g : Nat → Int) (h : ∀ i, f i ≤ g i) : ∀ xs : List Nat, (xs.map f).sum ≤ (xs.map g).sum
  | [] => by simp
  | x :: r => by simp; have := h x; have := sum_le f g h r; omega
theorem gB_bdA (i : Nat) (h : i < rs.length) : gB (rs.map (bdA bs)) i = bdA bs (rs.getD i 0) := by
  unfold gB
  rw [List.getElem?_map, List.getD_eq_getElem?_getD, List.getElem?_eq_getElem h]; rfl
theorem map_range (xs : List Nat) (f : Nat → Int) : (xs.map f) = (List.range xs.length).map fun i => f (xs.getD i 0) := by
  apply List.ext_getElem?
  intro i
  by_cases h : i < xs.length
  · simp [h]
  · rw [List.getElem?_eq_none (by simp; omega), List.getElem?_eq_none (by simp; omega)]
/-- where there is a ring no values keep the bonds -/
theorem ring_no (r : Ring bs rs) (u : Nat → Int) : ¬ Keeps bs u := by
  intro hk
  obtain ⟨m, hm⟩ : ∃ m, rs.length = m + 1 := ⟨rs.length - 1, by have := List.length_pos_iff.mpr r.ne; omega⟩
  have h1 := tele (fun i => bdA bs (rs.getD i 0)) u m fun i hi => r.link i (by omega)
  have h2 := r.close
  rw [hm, Nat.add_sub_cancel] at h2
  have h3 := r.neg
  rw [map_range, hm] at h3
  have h4 : (((List.range (m + 1)).map fun i => u (bdA bs (rs.getD i 0)).hi - u (bdA bs (rs.getD i 0)).lo)).sum ≤ ((List.range (m + 1)).map fun i => (bdA bs (rs.getD i 0)).rm).sum := by
    have key : ∀ xs : List Nat, (∀ i ∈ xs, i < rs.length) → (xs.map fun i => u (bdA bs (rs.getD i 0)).hi - u (bdA bs (rs.getD i 0)).lo).sum ≤ (xs.map fun i => (bdA bs (rs.getD i 0)).rm).sum := by
      intro xs
      induction xs with
      | nil => intro _; simp
      | cons x xs ih =>
        intro hx
        have := ih fun i hi => hx i (by simp [hi])
        have hxl := hx x (by simp)
        have hmem : rs.getD x 0 ∈ rs := by rw [List.getD_eq_getElem?_getD, List.getElem?_eq_getElem hxl]; exact List.getElem_mem hxl
        have hlt := r.lt _ hmem
        have hb : bdA bs (rs.getD x 0) ∈ bs := by unfold bdA; rw [List.getElem?_eq_getElem hlt]; exact List.getElem_mem hlt
        have := hk _ hb
        simp only [List.map_cons, List.sum_cons]
        omega
    exact key _ fun i hi => by rw [hm]; simpa using hi
  rw [h1] at h4
  rw [h2] at h4
  omega
theorem ring_wheel (r : Ring bs rs) : wheel bs (.lst (rs.map fun (k : Nat) => P.int (k : Int))) = true := by
  have hp : ∀ k ∈ rs, isP bs.length (.int (k : Int)) = true ∧ bAt bs (.int (k : Int)) = bdA bs k := fun k hk => by
    have hl := r.lt k hk
    have e : plc bs.length (.int (k : Int)) = some k := by simp [plc, hl]
    exact ⟨by unfold isP; rw [e]; rfl, by unfold bAt; rw [e]; rfl⟩
  have e1 : (rs.map fun (k : Nat) => P.int (k : Int)).map (bAt bs) = rs.map (bdA bs) := by
    rw [List.map_map]
    exact List.map_congr_left fun k hk => (hp k hk).2
  have e2 : (rs.map fun (k : Nat) => P.int (k : Int)).all (isP bs.length) = true := by
    rw [List.all_map, List.all_eq_true]
    exact fun k hk => (hp k hk).1
  have hpos := List.length_pos_iff.mpr r.ne
  simp only [wheel]
  rw [e1, e2]
  unfold closed
  have n1 : (rs.map (bdA bs)).isEmpty = false := by simp [r.ne]
  have l : (rs.map (bdA bs)).length = rs.length := by simp
  have n2 : linked (rs.map (bdA bs)) = true := by
    unfold linked
    rw [List.all_eq_true]
    intro i hi
    rw [List.mem_range, l] at hi
    rw [gB_bdA i (by omega), gB_bdA (i + 1) (by omega)]
    have := r.link i (by omega)
    unfold lkd
    rw [this]; exact beq_self_eq_true _
  have n3 : lkd (gB (rs.map (bdA bs)) ((rs.map (bdA bs)).length - 1)) (gB (rs.map (bdA bs)) 0) = true := by
    rw [l, gB_bdA _ (by omega), gB_bdA _ hpos]
    unfold lkd
    rw [r.close]; exact beq_self_eq_true _
  have n4 : ((rs.map (bdA bs)).map (·.rm)).sum < 0 := by
    rw [List.map_map]; exact r.neg
  rw [n1, n2, n3]
  simp only [Bool.not_false, Bool.true_and, decide_eq_true_eq]
  exact n4
end
end K37
end

section
set_option autoImplicit false
set_option linter.all false
set_option maxRecDepth 100000
/-! k37: the law's second half. -/
namespace K37
open Py
abbrev o15 (sc : P) (ns : List Int) (n sz : Nat) (md : Int) (b6 : U) (b5 : U) (y7 y8 y9 : Option U) : VEnv := [some (.fz sc), some (.fz (.lst (ns.map .int))), some (.fz (.int n)), some (.fz (.int sz)), some (.fz (.int md)), some b5, some b6, y7, y8, y9, none, none, none, none, none]
section
variable {n : Nat} {bs : List Bd} (hb : ∀ b, b ∈ bs → b.lo < n ∧ b.hi < n) (hl : bs.length ≤ 300) (hn : 0 < n) (hn2 : n ≤ 20) {ns : List Int} (hns : ns.length = 48) {sc : P} {sz : Nat} {md : Int}
include hb hl hn hn2 hns
/-- behind the answer is checked -/
theorem tail_v {K : Kv} {pl : List Int} {b5 : U} {y3 y6 y7 y8 y9 y10 y11 y12 y14 : Option U} (hpl : pl.length = n) (hv : F__law_values.v [.fz (.lst (ns.map .int)), .fz (.int n)] = .ok (.own (pl.map .int)) o2) (h5 : b5 = .own (bs.map bP) ∨ b5 = .fz (.lst (bs.map bP))) (hK : ∀ σ, K.rt (.fz (.bl true)) σ) :
    wS (vq10_law.v [some (.fz sc), some (.fz (.lst (ns.map .int))), some (.fz (.int n)), y3, some (.fz (.int md)), some b5, y6, y7, y8, y9, y10, y11, y12, none, y14]) K := by
  simp [callK, hv]
  unfold lzV
  obtain ⟨ps, g1, g2⟩ := value_papers_v (vs := pl) (num := ns.getD 7 0) (by omega) (by omega)
  have e7 : atI (ns.map P.int) 7 = some (.int (ns.getD 7 0)) := by
    rw [show (7 : Int) = ((7 : Nat) : Int) from rfl, atI_nat, List.getElem?_map, List.getD_eq_getElem?_getD, List.getElem?_eq_getElem (by omega)]; rfl
  have g3 := ask_values_v hb hl hn hn2 g1
  have g4 := ask_refusals_v hb hl hn hn2 (ns.getD 7 0 / 8000)
  generalize ns.getD 7 0 = n7 at *
  have l8 : (8000 : Int).natAbs.log2 < 9000 := log_small (by omega) (by omega)
  rcases h5 with rfl | rfl
  all_goals
    simp [callK, e7, g2, g3]
    unfold lzV
    simp [callK, e7, g4, l8]
    exact ⟨by decide, hK _⟩
/-- the papers of every script -/
theorem papers_v {wl : List P} (hw : wl = [] ∨ wl = [.int sz, .int ((sz : Int) + 1)]) : ∀ p, p ∈ [P.lst wl, .lst [], .non, .lst [.int 0], .lst (rngP 0 bs.length)] ++ ((List.range bs.length).map fun (k : Nat) => P.lst [.int (k : Int)]).take 30 → Gp p := by
  intro p hp
  rcases List.mem_append.mp hp with hp | hp
  · simp at hp
    rcases hp with rfl | rfl | rfl | rfl | rfl
    · rcases hw with rfl | rfl
      · exact lst_good (by simp) (by simp)
      · exact lst_good (by simp) (by simp)
    · exact lst_good (by simp) (by simp)
    · exact flat_good (by simp) nofun nofun
    · exact lst_good (by simp) (by simp)
    · exact lst_good (fun q hq => by unfold rngP at hq; obtain ⟨i, _, rfl⟩ := List.mem_map.mp hq; simp) (by simp [rngP]; omega)
  · obtain ⟨k, _, rfl⟩ := List.mem_map.mp (List.mem_of_mem_take hp)
    exact lst_good (by simp) (by simp)
omit hl hn hn2 hns in
theorem kept_vals {s : M} (hk : Keeps bs s.v) : kept n bs (.tup (valsP n s)) = true := by
  have at_ : ∀ i, i < n → atZ (valsP n s) i = s.v i := by
    intro i hi
    simp [atZ, valsP, hi]
  simp only [kept, Bool.and_eq_true, decide_eq_true_eq, List.all_eq_true]
  refine ⟨by simp [valsP], ?_, fun b hb' => ?_⟩
  · intro p hp
    unfold valsP at hp
    obtain ⟨i, _, rfl⟩ := List.mem_map.mp hp
    rfl
  · rw [at_ _ (hb b hb').1, at_ _ (hb b hb').2]
    exact hk b hb'
theorem mid_v {K : Kv} {pl : List Int} {b5 : U} {wl : List P} {y7 y8 y9 : Option U} (hpl : pl.length = n) (hv : F__law_values.v [.fz (.lst (ns.map .int)), .fz (.int n)] = .ok (.own (pl.map .int)) o2) (h5 : b5 = .own (bs.map bP) ∨ b5 = .fz (.lst (bs.map bP)))
    (hw : wl = [] ∨ wl = [.int sz, .int ((sz : Int) + 1)]) (hno : wl ≠ [] → ∀ u, ¬ Keeps bs u) (hyes : md < 4 → wl = [] → ∃ u, Keeps bs u) (hK : ∀ σ, K.rt (.fz (.bl true)) σ) :
    wS (vq15_law.v [some (.fz sc), some (.fz (.lst (ns.map .int))), some (.fz (.int n)), some (.fz (.int sz)), some (.fz (.int md)), some b5, some (.own wl), y7, y8, y9, none, none, none, none, none]) K := by
  have hle : (P.lst (bs.map bP)).le 60 = true := by
    rw [ple_lst, List.all_eq_true]
    exact fun p hp => le_up (by decide) (bd_good hb hp).1
  have heq := eqv_refl 60 _ hle
  have hle' : ∀ x, x ∈ bs → P.le 59 (bP x) = true := fun x hx => by simp [bP]
  have sm := small_int (i := bs.length) (by omega) (by omega)
  have hsz : (bs.length : Int) ≤ 16777216 := by omega
  have lc : ∀ (y6 y11 : Option U) (b5 : U), lcGoV (Tgt.name 14).v (Te.yes (Cx := [])).v (E.lst (Cx := []) (arCons (E.var 14) arNil)).v [14] (rngP 0 bs.length) [some (.fz sc), some (.fz (.lst (ns.map .int))), some (.fz (.int n)), some (.fz (.int sz)), some (.fz (.int md)), some b5, y6, y7, y8, y9, some (.fz (.lst (bs.map bP))), y11, none, none, none] [] =
      .ok ((List.range bs.length).map fun (k : Nat) => .own [.int (k : Int)]) [some (.fz sc), some (.fz (.lst (ns.map .int))), some (.fz (.int n)), some (.fz (.int sz)), some (.fz (.int md)), some b5, y6, y7, y8, y9, some (.fz (.lst (bs.map bP))), y11, none, none, none] := by
    intro y6 y11 b5
    unfold rngP
    refine lc_mapU (fun (k : Nat) => .int (0 + (k : Int))) _ (List.range bs.length) (by simp [LINE]; omega) fun k _ => ⟨_, rfl, rfl, ?_, rfl⟩
    simp [mkLst, LINE]
  have hpap := papers_v hb hl hn hn2 hns hw
  have sol := solve_v hb hn hn2 hl
  have mkO : mkLst ((List.range bs.length).map fun (k : Nat) => U.own [.int (k : Int)]) = U.nst ((List.range bs.length).map fun (k : Nat) => U.own [.int (k : Int)]) ∨ bs.length = 0 := by
    cases hbl : bs.length with
    | zero => exact .inr rfl
    | succ m => left; rw [List.range_succ_eq_map]; rfl
  have mkP : (mkLst ((List.range bs.length).map fun (k : Nat) => U.own [.int (k : Int)])).toP = .lst ((List.range bs.length).map fun (k : Nat) => P.lst [.int (k : Int)]) := by
    rcases mkO with h | h
    · rw [h]; simp
    · rw [h]; simp [mkLst]
  have c30 : ∀ xs : List P, cut xs none (some 30) = xs.take 30 := fun xs => cut_to xs 30
  have tk : (((List.range bs.length).map fun (k : Nat) => P.lst [.int (k : Int)]).take 30).length ≤ 30 := by simp; omega
  generalize ((List.range bs.length).map fun (k : Nat) => P.lst [.int (k : Int)]) = Ks at *
  -- the second half, whatever was answered
  have go : ∀ (told : P), (∃ t0 t1 : P, told = .tup [t0, t1]) → (∀ σ12 : List P, σ12 = [P.lst wl, .lst [], .non, .lst [.int 0], .lst (rngP 0 bs.length)] ++ Ks.take 30 → wS (vq11_law.v [some (.fz sc), some (.fz (.lst (ns.map .int))), some (.fz (.int n)), some (.fz (.int sz)), some (.fz (.int md)), some (.fz (.lst (bs.map bP))), some (.fz (.lst wl)), y7, y8, y9, some (.fz (.lst (bs.map bP))), some (.fz told), some (.own σ12), none, none]) K) →
      F_solve.v [.fz (.int n), .fz (.lst (bs.map bP))] = .ok (.fz told) o2 → wS (vq15_law.v [some (.fz sc), some (.fz (.lst (ns.map .int))), some (.fz (.int n)), some (.fz (.int sz)), some (.fz (.int md)), some b5, some (.own wl), y7, y8, y9, none, none, none, none, none]) K := by
    rintro _ ⟨t0, t1, rfl⟩ h12 hs
    have h12 := h12 _ rfl
    simp only [List.cons_append, List.nil_append] at h12
    rcases h5 with rfl | rfl
    all_goals
      simp
      unfold lzV
      simp [callK, hs]
      unfold lzV
      simp [heq, isTy, ub]
      refine ⟨hle', ?_⟩
      unfold lzV
      simp [lc, sm, hsz, LINE, mkLst]
      simp only [mkLst] at mkP
      rw [mkP]
      simp [c30, LINE]
      exact ⟨by omega, h12⟩
  rcases sol with ⟨k, h1, h2, h3⟩ | ⟨rs, h1, h2, h3⟩
  · refine go _ ⟨_, _, rfl⟩ ?_ h3
    intro σ12 h12
    obtain ⟨f1, f2⟩ := fixed h2
    have hwl : wl = [] := by
      cases wl with
      | nil => rfl
      | cons a b => exact absurd f1 (hno (by simp) _)
    subst hwl
    have hkp := kept_vals (s := mk bs (k + 1)) hb f1
    have hgr : F__law_is_greatest.v [.fz (.lst (bs.map bP)), .fz (.tup (valsP n (mk bs (k + 1))))] = .ok (.fz (.bl true)) o2 := greatest_v hb hl hn hn2 (le_zero _) (greatest hb f1 (le_zero _) fun u hu h0 => above hu h0 _)
    have hkv := kept_v (n := n) hb hl (p := .tup (valsP n (mk bs (k + 1)))) (by rw [ple_tup, List.all_eq_true]; intro p hp; unfold valsP at hp; obtain ⟨i, _, rfl⟩ := List.mem_map.mp hp; simp) (by intro qs e; cases e; simp [valsP, LINE]; omega)
    rw [hkp] at hkv
    obtain ⟨ps, g1, g2⟩ := value_papers_v (vs := (List.range n).map (mk bs (k + 1)).v) (num := ns.getD 7 0) (by simp; omega) (by simp; omega)
    have ev : ((List.range n).map (mk bs (k + 1)).v).map P.int = valsP n (mk bs (k + 1)) := by simp [valsP, Function.comp_def]
    rw [ev] at g2
    have g3 := ask_values_v hb hl hn hn2 g1
    have g4 := ask_wheels_v hb hl hn hn2 (ps := σ12) (by rw [h12]; exact hpap)
    have e7 : atI (ns.map P.int) 7 = some (.int (ns.getD 7 0)) := by
      rw [show (7 : Int) = ((7 : Nat) : Int) from rfl, atI_nat, List.getElem?_map, List.getD_eq_getElem?_getD, List.getElem?_eq_getElem (by omega)]; rfl
    have tl := fun (y3 y6 y7 y8 y9 y10 y11 y12 y14 : Option U) b h => tail_v (b5 := b) (y3 := y3) (y6 := y6) (y7 := y7) (y8 := y8) (y9 := y9) (y10 := y10) (y11 := y11) (y12 := y12) (y14 := y14) (sc := sc) (md := md) (K := K) hb hl hn hn2 hns hpl hv h hK
    generalize ns.getD 7 0 = n7 at *
    simp [callK, hkv, hgr]
    generalize vq10_law.v = V at tl ⊢
    unfold lzV
    simp [callK, e7, g2, g3]
    unfold lzV
    simp [callK, g4]
    exact tl _ _ _ _ _ _ _ _ _ _ (.inr rfl)
  · refine go _ ⟨_, _, rfl⟩ ?_ h3
    intro σ12 h12
    have hpos := List.length_pos_iff.mpr h1.ne
    have hrw : F__law_is_wheel.v [.fz (.lst (bs.map bP)), .fz (.lst (rs.map fun (k : Nat) => P.int (k : Int)))] = .ok (.fz (.bl true)) o2 := by
      have := wheel_v (bs := bs) (p := .lst (rs.map fun (k : Nat) => P.int (k : Int))) (by omega) (by rw [ple_lst, List.all_eq_true]; intro p hp; obtain ⟨i, _, rfl⟩ := List.mem_map.mp hp; simp) (by intro qs e; cases e; simp; omega)
      rw [ring_wheel h1] at this
      exact this
    have hwl : md < 4 → wl ≠ [] := by
      intro h h'
      obtain ⟨u, hu⟩ := hyes h h'
      exact ring_no h1 u hu
    obtain ⟨ps, g1, gl, g2⟩ := wheel_papers_v (vs := rs.map fun (k : Nat) => (k : Int)) (num := ns.getD 7 0) (sz := bs.length) (by simp; omega) (by simp; omega) (by omega)
    have ev : (rs.map fun (k : Nat) => (k : Int)).map P.int = rs.map fun (k : Nat) => P.int (k : Int) := by simp [Function.comp_def]
    rw [ev] at g2
    have g3 := ask_wheels_v hb hl hn hn2 (ps := σ12 ++ ps) (by rw [h12]; intro p hp; rcases List.mem_append.mp hp with h | h; exact hpap p h; exact g1 p h)
    have sl : (σ12 ++ ps).length ≤ 200 := by rw [h12]; simp; omega
    have e7 : atI (ns.map P.int) 7 = some (.int (ns.getD 7 0)) := by
      rw [show (7 : Int) = ((7 : Nat) : Int) from rfl, atI_nat, List.getElem?_map, List.getD_eq_getElem?_getD, List.getElem?_eq_getElem (by omega)]; rfl
    have tl := fun (y3 y6 y7 y8 y9 y10 y11 y12 y14 : Option U) b h => tail_v (b5 := b) (y3 := y3) (y6 := y6) (y7 := y7) (y8 := y8) (y9 := y9) (y10 := y10) (y11 := y11) (y12 := y12) (y14 := y14) (sc := sc) (md := md) (K := K) hb hl hn hn2 hns hpl hv h hK
    rcases hw with rfl | rfl
    · have hmd : ¬ md < 4 := fun h => hwl h rfl
      generalize ns.getD 7 0 = n7 at *
      generalize (rs.map fun (k : Nat) => P.int (k : Int)) = rp at *
      simp [callK, hrw, hmd]
      generalize vq10_law.v = V at tl ⊢
      unfold lzV
      simp [callK, e7, g2, g3, hsz]
      refine ⟨by unfold LINE; simp at sl; omega, ?_⟩
      unfold lzV
      simp [callK]
      exact tl _ _ _ _ _ _ _ _ _ _ (.inr rfl)
    · obtain ⟨ps', g1', gl', g2'⟩ := wheel_papers_v (vs := [(sz : Int), (sz : Int) + 1]) (num := ns.getD 7 0) (sz := bs.length) (by simp) (by simp) (by omega)
      have g3' := ask_wheels_v hb hl hn hn2 g1'
      simp only [List.map_cons, List.map_nil] at g2'
      generalize ns.getD 7 0 = n7 at *
      generalize (rs.map fun (k : Nat) => P.int (k : Int)) = rp at *
      simp [callK, hrw]
      generalize vq10_law.v = V at tl ⊢
      unfold lzV
      simp [callK, e7, g2, g3, hsz]
      refine ⟨by unfold LINE; simp at sl; omega, ?_⟩
      unfold lzV
      simp [callK, e7, g2', g3']
      exact tl _ _ _ _ _ _ _ _ _ _ (.inr rfl)
end
end K37
end

section
set_option autoImplicit false
set_option linter.all false
set_option maxRecDepth 100000
/-! k37: the law. -/
namespace K37
open Py
theorem at_ns {ns : List Int} (h1 : ns.length = 48) (k : Nat) (hk : k < 48) : atI (ns.map P.int) (k : Int) = some (.int (ns.getD k 0)) := by
  rw [atI_nat, List.getElem?_map, List.getD_eq_getElem?_getD, List.getElem?_eq_getElem (by omega)]; rfl
theorem rest_v {K : Kv} {ns : List Int} {n sz : Nat} {sc : P} (hns : ns.length = 48) (hn : 0 < n) (hn2 : n ≤ 20) (hsz : sz ≤ 301) (hK : ∀ σ, K.rt (.fz (.bl true)) σ) :
    wS (vq20_law.v [some (.fz sc), some (.fz (.lst (ns.map .int))), some (.fz (.int n)), some (.fz (.int sz)), none, none, none, none, none, none, none, none, none, none, none]) K := by
  have e2 : atI (ns.map P.int) 2 = _ := at_ns hns 2 (by omega)
  have e5 : atI (ns.map P.int) 5 = _ := at_ns hns 5 (by omega)
  have e6 : atI (ns.map P.int) 6 = _ := at_ns hns 6 (by omega)
  generalize ns.getD 2 0 = n2 at *
  generalize ns.getD 5 0 = n5 at *
  generalize ns.getD 6 0 = n6 at *
  obtain ⟨pl, hpl, hv⟩ := values_v hns hn2
  have md10 : n2 % 10 < 10 ∧ 0 ≤ n2 % 10 := by omega
  simp [e2, ub]
  generalize n2 % 10 = md at *
  obtain ⟨bs, hbl, gb, hb⟩ := bonds_v (sz := min sz 300) (md := md) hns hn hn2 (by omega) hpl hv
  have hle : bs.length ≤ 300 := by omega
  have hlt := gb.lt
  have mid := fun (bs : List Bd) (hb : ∀ b, b ∈ bs → b.lo < n ∧ b.hi < n) (hl : bs.length ≤ 300) => @mid_v n bs hb hl hn hn2 ns hns sc sz md K pl
  unfold lzV
  by_cases h300 : 300 < (sz : Int)
  · rw [show ((min sz 300 : Nat) : Int) = 300 by omega] at hb
    have hm : F_check_bonds.v [.fz (.int n), .fz (.lst (bs.map bP ++ [.tup [.int 0, .int 0, .int 0]]))] = .exc xMany o2 := check_many (by simp [isC]; omega) (by simp; omega)
    simp [callK, hb, ub, h300]
    unfold lzV
    have hr := refusal_v hm (.inr ⟨rfl, rfl⟩) (n5 % 6)
    have he := equal_told (s := ['m', 'a', 'n', 'y']) (k := 300) (by decide) (by decide) (by decide) (by decide)
    simp [h300, callK, ub, mkLst, e5, LINE]
    refine ⟨by omega, ?_⟩
    simp [callK, hr, he]
    exact hK _
  · rw [show ((min sz 300 : Nat) : Int) = sz by omega] at hb
    simp [callK, hb, ub, h300]
    unfold lzV
    simp [h300]
    unfold lzV
    simp [mkLst]
    unfold lzV
    have e15 := hbl
    rw [show min sz 300 = sz by omega] at e15
    by_cases hw : md % 2 = 1 ∧ (sz : Int) < 299
    · obtain ⟨hw1, hw2⟩ := hw
      have hd := digits_v (z := n5) (bases := [(n : Int), n]) (by intro b hb; simp at hb; subst hb; exact ⟨by omega, log_small (by omega) (by omega)⟩) (by simp)
      simp only [List.map_cons, List.map_nil, digs] at hd
      obtain ⟨lo, hlo⟩ : ∃ k : Nat, n5 % n = k := Int.eq_ofNat_of_zero_le (Int.emod_nonneg _ (by omega))
      obtain ⟨hi, hhi⟩ : ∃ k : Nat, n5 / n % n = k := Int.eq_ofNat_of_zero_le (Int.emod_nonneg _ (by omega))
      have llo : lo < n := by have := Int.emod_lt_of_pos n5 (show (0 : Int) < n by omega); omega
      have lhi : hi < n := by have := Int.emod_lt_of_pos (n5 / n) (show (0 : Int) < n by omega); omega
      rw [hlo, hhi] at hd
      simp [hw1, hw2, callK, e5, mkLst, LINE, hd]
      have := fun ap : Int => mid (b5 := .own ((bs ++ [Bd.mk lo hi ap, Bd.mk hi lo (-ap - 1)]).map bP)) (wl := [.int sz, .int ((sz : Int) + 1)]) (y7 := some (.fz (.int lo))) (y8 := some (.fz (.int hi))) (y9 := some (.fz (.int ap))) (bs ++ [⟨lo, hi, ap⟩, ⟨hi, lo, -ap - 1⟩])
        (by intro b hb; rcases List.mem_append.mp hb with h | h; exact hlt b h; simp at h; rcases h with rfl | rfl; exact ⟨llo, lhi⟩; exact ⟨lhi, llo⟩) (by simp; omega) hpl hv (.inl rfl) (.inr rfl)
        (by
          intro _ u hu
          have a1 := hu ⟨lo, hi, ap⟩ (by simp)
          have a2 := hu ⟨hi, lo, -ap - 1⟩ (by simp)
          simp only at a1 a2
          omega) (fun _ h => by simp at h) hK
      generalize vq15_law.v = V at this ⊢
      unfold lzV
      simp [e6, ub]
      refine ⟨by decide, ?_⟩
      have th := this (n6 % 100000000000000000000)
      generalize n6 % 100000000000000000000 = ap at *
      unfold lzV
      simp [LINE, mkLst]
      refine ⟨by omega, ?_⟩
      unfold lzV
      simp [mkLst, LINE]
      simp [bP] at th
      exact th
    · have := mid (b5 := .own (bs.map bP)) (wl := []) (y7 := none) (y8 := none) (y9 := none) bs hlt hle hpl hv (.inl rfl) (.inl rfl) (fun h => absurd rfl h) (fun h _ => ⟨fun i => pl.getD i 0, fun b hb => gb.kp h b hb⟩) hK
      simp
      by_cases h1 : md % 2 = 1
      · have h2 : ¬ (sz : Int) < 299 := fun h => hw ⟨h1, h⟩
        simp [h1, h2]
        exact this
      · simp [h1]
        exact this
theorem law_v (is : List Int) : ∃ outs, F_law.v [.fz (.scr (is.map .int))] = .ok (.fz (.bl true)) outs := by
  suffices h : wF (F_law.v [.fz (.scr (is.map .int))]) (fun u _ => u = .fz (.bl true)) fun _ _ => False by
    obtain ⟨u, o, h1, rfl⟩ := vf_ex h
    exact ⟨o, h1⟩
  rw [wf_law]
  unfold vb_law
  obtain ⟨ns, hns, h2⟩ := numbers_v is
  have e0 : atI (ns.map P.int) 0 = _ := at_ns hns 0 (by omega)
  have e1 : atI (ns.map P.int) 1 = _ := at_ns hns 1 (by omega)
  generalize ns.getD 0 0 = n0 at *
  generalize ns.getD 1 0 = n1 at *
  obtain ⟨n, hn⟩ : ∃ n : Nat, 1 + n0 % 20 = n := Int.eq_ofNat_of_zero_le (by omega)
  obtain ⟨sz, hsz⟩ : ∃ n : Nat, n1 % 41 = n := Int.eq_ofNat_of_zero_le (by omega)
  have rest := fun (sc : P) sz hs => @rest_v ⟨fun _ => False, fun u _ => u = .fz (.bl true), fun _ => False, fun _ => False, fun _ _ => False⟩ ns n sz sc hns (by omega) (by omega) hs (fun _ => rfl)
  simp [callK, h2]
  unfold lzV
  simp [e0, hn, ub]
  unfold lzV
  simp [e1, hsz, ub]
  unfold lzV
  simp [e1, hsz, ub]
  refine ⟨log_small (b := 41) (by omega) (by omega), ?_⟩
  by_cases h : n1 / 41 % 10 = 1
  · right
    refine ⟨h, ?_⟩
    have := rest (.scr (is.map .int)) (298 + sz % 4) (by omega)
    rw [show ((298 + sz % 4 : Nat) : Int) = 298 + (sz : Int) % 4 by omega] at this
    exact this
  · left
    exact ⟨h, rest (.scr (is.map .int)) sz (by omega)⟩
theorem law_ok (is : List Int) : wp (f_law [.ref 0] [.frz (is.map .int)]) fun v _ => v = .bl true := by
  have := law_start F_law law_v is
  rw [m_law] at this
  exact this
end K37
end

open PySem PySem.W PyProof.Rows
theorem PySem.Challenge.cw_hearsay_k37_bonds_values_or_ring_holds : PySem.Challenge.rw_hearsay_k37_bonds_values_or_ring.Holds := by
  exact rw_hearsay_k37_bonds_values_or_ring_holds_of fun is => K37.law_ok is
